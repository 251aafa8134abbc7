import PyProof.Rows.All
import Wide.All
import OpenK.AllK
import Wide.FinOn
import HandS.ForMost
import HandS.Codes
import HandS.Conv
import HandS.TupAny
import HandS.TupLe
import HandS.IsInst
import HandS.Flt
import KE.GoesEnum
import KE.GoesMore
import PySem.Challenge.RW_tellwork_k41_distances
set_option Elab.async false
set_option linter.all false
set_option maxRecDepth 100000
set_option maxHeartbeats 4000000
namespace Tw
open PySem PySem.Spec PyProof.Rows L2

/-! ### texts as lists -/
abbrev S (l : List Nat) : Str := ⟨l.toArray⟩
theorem S_len (l : List Nat) : (S l).length = l.length := by show l.toArray.size = _; simp
theorem S_cps (l : List Nat) : (S l).cps.toList = l := rfl
theorem S_add (a b : List Nat) : S a ++ S b = S (a ++ b) := by
  show (⟨a.toArray ++ b.toArray⟩ : Str) = ⟨(a ++ b).toArray⟩
  simp
theorem S_inj {a b : List Nat} : S a = S b ↔ a = b := by
  constructor
  · intro h
    have := congrArg (fun z : Str => z.cps.toList) h
    simpa using this
  · rintro rfl; rfl
theorem S_of (z : Str) : z = S z.cps.toList := by cases z; simp
theorem S_cut (l : List Nat) (lo hi : Option Int) : cutS (S l) lo hi = S ((l.drop (HT.sIx l.length 0 lo)).take (HT.sIx l.length l.length hi - HT.sIx l.length 0 lo)) := by
  unfold cutS
  rw [S_len]

theorem cut_to (l : List Nat) (k : Nat) : cutS (S l) none (some (k : Int)) = S (l.take k) := by
  rw [S_cut, HT.sIx_none, HT.sIx_nat, List.drop_zero, Nat.sub_zero]
  rcases Nat.le_total k l.length with h | h
  · rw [Nat.min_eq_left h]
  · rw [Nat.min_eq_right h, List.take_of_length_le (Nat.le_refl _), List.take_of_length_le h]
theorem cut_from (l : List Nat) (k : Nat) : cutS (S l) (some (k : Int)) none = S (l.drop k) := by
  rw [S_cut, HT.sIx_none, HT.sIx_nat]
  rcases Nat.le_total k l.length with h | h
  · rw [Nat.min_eq_left h, List.take_of_length_le (by rw [List.length_drop]; exact Nat.le_refl _)]
  · rw [Nat.min_eq_right h, List.drop_of_length_le (Nat.le_refl _), List.drop_of_length_le h, List.take_nil]
theorem S_add1 (l : List Nat) (c : Nat) : S l ++ (⟨#[c]⟩ : Str) = S (l ++ [c]) := S_add l [c]
theorem szL {n : Nat} (h : n ≤ 100000) : n ≤ sizeLine := Nat.le_trans h (by decide)
theorem szl {n : Nat} (h : n < 100000) : n < sizeLine := Nat.lt_of_lt_of_le h (by decide)

/-! ### rules that the layer lacks -/
section
variable {X : Cx}
theorem call_min3 (hc : X.calm = true) : CallR X (.builtin "min") (fun xs H Q => ∃ i j k : Int, xs = [.int i, .int j, .int k] ∧ Q (.int (min (min i j) k)) H) := by
  intro pins s σ H xs us Q I r h
  obtain ⟨i, j, k, rfl, q⟩ := h
  refine call_min3Nu hc pins s σ H _ us Q I r ⟨.int i, .int j, .int k, .int (min (min i j) k), rfl, ?_, q⟩
  have e1 : nuMin2 (.int i) (.int j) = some (.int (min i j)) := by
    show (some (decide (j < i))).map (fun c => if c = true then V.int j else V.int i) = _
    by_cases h : j < i
    · simp [h, Int.min_eq_right (Int.le_of_lt h)]
    · simp [h, Int.min_eq_left (Int.not_lt.mp h)]
  show (nuMin2 (.int i) (.int j)).bind (fun m => nuMin2 m (.int k)) = _
  rw [e1]
  show (some (decide (k < min i j))).map (fun c => if c = true then V.int k else V.int (min i j)) = _
  by_cases h : k < min i j
  · simp only [h, decide_true, Option.map_some, if_true, Int.min_eq_right (Int.le_of_lt h)]
  · simp only [h, decide_false, Option.map_some, Bool.false_eq_true, if_false, Int.min_eq_left (Int.not_lt.mp h)]
theorem call_min2' (hc : X.calm = true) : CallR X (.builtin "min") (fun xs H Q => ∃ i j : Int, xs = [.int i, .int j] ∧ Q (.int (min i j)) H) := by
  intro pins s σ H xs us Q I r h
  obtain ⟨i, j, rfl, q⟩ := h
  refine call_min2 hc pins s σ H _ us Q I r ⟨i, j, rfl, ?_⟩
  by_cases h : j < i
  · rw [if_pos h]; rw [Int.min_eq_right (Int.le_of_lt h)] at q; exact q
  · rw [if_neg h]; rw [Int.min_eq_left (Int.not_lt.mp h)] at q; exact q
theorem call_max2' (hc : X.calm = true) : CallR X (.builtin "max") (fun xs H Q => ∃ i j : Int, xs = [.int i, .int j] ∧ Q (.int (max i j)) H) := by
  intro pins s σ H xs us Q I r h
  obtain ⟨i, j, rfl, q⟩ := h
  refine call_max2 hc pins s σ H _ us Q I r ⟨i, j, rfl, ?_⟩
  by_cases h : j > i
  · rw [if_pos h]; rw [Int.max_eq_right (Int.le_of_lt h)] at q; exact q
  · rw [if_neg h]; rw [Int.max_eq_left (Int.not_lt.mp h)] at q; exact q
/-- s * n of a text of one sign -/
theorem op_mul_str : OpR X (binaryOp .Mult) (fun x y H Q => ∃ (c : Nat) (n : Nat), x = .str (S [c]) ∧ y = .int (n : Int) ∧ 2 ≤ n ∧ n ≤ 1000 ∧ Q (.str (S (List.replicate n c))) H) := by
  intro pins s σ H x y v u Q I rx ry h
  obtain ⟨c, n, rfl, rfl, h1, h2, q⟩ := h
  obtain ⟨t, rfl⟩ := rx
  obtain ⟨t', rfl⟩ := ry
  have hl : (S [c]).length = 1 := S_len _
  have e : (List.replicate n (#[c] : Array Nat)).foldl (· ++ ·) #[] = (List.replicate n c).toArray := by
    have g : ∀ (n : Nat) (a : Array Nat), (List.replicate n (#[c] : Array Nat)).foldl (· ++ ·) a = a ++ (List.replicate n c).toArray := by
      intro n
      induction n with
      | zero => intro a; simp
      | succ n ih =>
        intro a
        rw [List.replicate_succ, List.foldl_cons, ih]
        apply Array.toList_inj.mp
        simp [List.replicate_succ]
    rw [g]
    apply Array.toList_inj.mp
    simp
  refine PySem.P.mul_str (by
      have a : ¬ ((n : Int) < -(2 ^ 63 : Int)) := by omega
      have b : ¬ ((n : Int) ≥ 2 ^ 63) := by omega
      rw [decide_eq_false a, decide_eq_false b]; rfl) (fun _ _ => ?_) (fun _ _ => ?_) ?_
  · rw [hl]
    have : (1 : Int) ≤ (2 ^ 63 - 1) / (n : Int) := by
      rw [Int.le_ediv_iff_mul_le (by omega)]
      omega
    omega
  · rw [hl]
    have e3 : 1 * (n : Int).toNat = n := by omega
    rw [e3]
    exact decide_eq_false (Nat.not_lt.mpr (szL (by omega)))
  · rw [if_neg (by omega)]
    have g : ((n : Int) == 1 || (S [c]).length == 0) = false := by
      rw [hl]
      have : ((n : Int) == 1) = false := by
        rw [beq_eq_false_iff_ne]; omega
      rw [this]; rfl
    rw [if_neg (by rw [g]; exact Bool.false_ne_true)]
    rw [show (List.replicate (n : Int).toNat (S [c]).cps) = List.replicate n (#[c] : Array Nat) by rw [Int.toNat_natCast], e]
    refine ⟨?_, .str _, H, I.tok _, ⟨_, rfl⟩, q⟩
    show (List.replicate n c).toArray.size ≤ sizeLine
    rw [List.size_toArray, List.length_replicate]
    exact szL (by omega)
end
/-! ### enumerate(text, k), enumerate(list, k) -/
def ItsC (x : Str) (k : Int) : It :=
  ⟨fun i _ => i < x.cps.size, fun i H v H' => ∃ T c, v = .ref T ∧ H T = none ∧ x.cps[i]? = some c ∧ H' = upd H T (.tup [.int (k + (i : Nat)), .str ⟨#[c]⟩]), fun i _ => i = x.cps.size⟩
def IteC (K : PySem.W.Frag) (a : Addr) (k : Int) : It :=
  ⟨fun i H => ∃ (xs : List V) (x : V), SqL K H a xs ∧ xs[i]? = some x, fun i H v H' => ∃ T x, v = .ref T ∧ H T = none ∧ H' = upd H T (.tup [.int (k + (i : Nat)), x]) ∧ ∀ xs, SqL K H a xs → xs[i]? = some x, fun i H => ∃ xs : List V, SqL K H a xs ∧ xs.length = i⟩
section
variable {X : Cx}
/-- one turn, whatever is drawn -/
theorem enum_turn {elts : List Expr} {kk : Nat} {tpos : Pos} {pins : List (Addr × Obj)} {s : Shared} {σ : L2.St} {H : Hp} {E : Value → Shared → Prop} {e it : Addr} {fp fq : List Addr} {n i : Nat} {k : Int} {Pd : Nat → Value → Prop} {Sd : Nat → Heap → Prop} {old : Value}
    {yld : V → Hp → Prop} {tn : Heap → Prop} (I : Inv X pins σ H s) (D : Draws X.prog X.w X.A.in1 it fp n Pd Sd) (he : IsEnum s.heap e it (k + (i : Int)) old) (hst : Sd i s.heap) (hlt : i < n) (hne : e ≠ it) (hef : e ∉ fp)
    (hfq : ∀ b, b ∈ fq ↔ b = e ∨ b = it) (hf : ∀ b ∈ fq, FpOk X pins H b) (hil : it < s.heap.objs.size)
    (hy : ∀ u, Pd i u → ∃ x, RelV x u ∧ ∀ T, H T = none → yld (.ref T) (upd H T (.tup [.int (k + (i : Int)), x])))
    (ht : ∀ h', (∃ x, IsEnum h' e it (k + ((i + 1 : Nat) : Int)) x) → Sd (i + 1) h' → tn h') (hfr : ∀ h1 h2, Sd (i + 1) h1 → (∀ b o, b ≠ e → h1.get? b = some o → h2.get? b = some o) → Sd (i + 1) h2) :
    wpAny (model X.prog X.w) X.A (pyNext (.ref e)) (fun r s1 => ∃ u, r = some u ∧
      wpAny (model X.prog X.w) X.A (letOwnedTupleGo (.Tuple elts kk tpos) (.ref e) u) (fun _ s2 => ∃ x H', Inv X pins σ H' s2 ∧ RelV x u ∧ yld x H' ∧ tn s2.heap ∧ ∀ b ∈ fq, H' b = none) E s1) E s := by
  have hel : e < s.heap.objs.size := Heap.lt_size he
  refine wpAny_pyNext_enum_itemC D he hst hlt hne hef fun u h' tk hP ho hst' hT hsz hk => ?_
  obtain ⟨x, ru, hyx⟩ := hy u hP
  refine ⟨_, rfl, wpAny_letOwnedTupleGo_enum (s := { s with heap := h', toks := tk + 1 }) ho fun h'' he' sb => ?_⟩
  have hT2 : h''.get? s.heap.objs.size = some { cls := .type "tuple", data := .seq #[.int (k + (i : Int)) tk, u] } := (sb.2 _ (Nat.ne_of_gt hel)).trans hT
  have new : ObjOk X.prog X.w (upd H s.heap.objs.size (.tup [.int (k + (i : Int)), x])) h'' s.heap.objs.size (.tup [.int (k + (i : Int)), x]) :=
    ⟨by show 2 ≤ sizeLine; decide, [.int (k + (i : Int)) tk, u], .cons ⟨_, rfl⟩ (.cons ru .nil), ⟨_, hT2, rfl, _, rfl⟩⟩
  have I1 : Inv X pins σ (upd H s.heap.objs.size (.tup [.int (k + (i : Int)), x])) { s with heap := h'', toks := tk + 1 } :=
    I.turnedNew (ch := fq) (fun b ob hb q => (sb.2 b (fun z => hb ((hfq b).mpr (.inl z)))).trans (hk b ob (fun z => hb ((hfq b).mpr (.inl z))) (fun z => hb ((hfq b).mpr (.inr z))) q)) hf (Nat.le_refl _) new
  have hn : H s.heap.objs.size = none := I.hok.fresh (Nat.le_refl _)
  refine ⟨.ref s.heap.objs.size, _, I1, rfl, hyx _ hn, ht h'' ⟨u, ?_⟩ (hfr h' h'' hst' fun b o hb q => (sb.2 b hb).trans q), fun b hb => ?_⟩
  · have e1 : k + ((i + 1 : Nat) : Int) = k + (i : Int) + 1 := by omega
    rw [e1]; exact he'
  · have hb' : b < s.heap.objs.size := by
      rcases (hfq b).mp hb with z | z
      · rw [z]; exact hel
      · rw [z]; exact hil
    rw [upd_ne (Nat.ne_of_lt hb')]
    exact (hf b hb).1
theorem turn_enumS {P : Program} {w : World} {K : PySem.W.Frag} {elts : List Expr} {kk : Nat} {tpos : Pos} (x : Str) (t : Tok) (k : Int) (e it : Addr) :
    Turn P w K (.Tuple elts kk tpos) (ItsC x k) [e, it] e (fun i h => (∃ old, IsEnum h e it (k + ((i : Nat) : Int)) old) ∧ h.IsStrIter it (strIterType x) x t i ∧ e ≠ it) where
  mem := by simp
  obj := fun i h st b hb => by
    obtain ⟨⟨old, he⟩, ⟨o, ho, hc, hd⟩, _⟩ := st
    have e' : b = e ∨ b = it := by simpa using hb
    rcases e' with z | z
    · rw [z]; exact ⟨_, he, fun v q => nomatch q⟩
    · rw [z]; exact ⟨o, ho, fun v q => by rw [hd] at q; cases q⟩
  keep := fun i h h' st k => let ⟨⟨old, he⟩, ⟨o, ho, r⟩, hne⟩ := st; ⟨⟨old, k e (by simp) _ he⟩, ⟨o, k it (by simp) o ho, r⟩, hne⟩
  item := by
    intro X hP hw hK hc i pins s σ H E I hf st hg
    subst hP hw hK
    obtain ⟨⟨old, he⟩, hit, hne⟩ := st
    have hil : it < s.heap.objs.size := by obtain ⟨_, q, _⟩ := hit; exact Heap.lt_size q
    refine enum_turn (fq := [e, it]) (fp := [it]) (n := x.cps.size) (Pd := fun i v => ∃ c u, x.cps[i]? = some c ∧ v = .str ⟨#[c]⟩ u) (Sd := fun i h => h.IsStrIter it (strIterType x) x t i) (yld := (ItsC x k).yld i H) (tn := fun h => (∃ old, IsEnum h e it (k + ((i + 1 : Nat) : Int)) old) ∧ h.IsStrIter it (strIterType x) x t (i + 1) ∧ e ≠ it) I (Draws.text (A := X.A.in1) (I.ok.hd hc) it x t) he hit hg hne (by simpa using hne) (fun b => by simp) hf hil (fun u hu => ?_) (fun h' a b => ⟨a, b, hne⟩) (fun h1 h2 ⟨o, ho, r⟩ hk => ⟨o, hk it o (Ne.symm hne) ho, r⟩)
    obtain ⟨c, u', hcx, rfl⟩ := hu
    exact ⟨.str ⟨#[c]⟩, ⟨_, rfl⟩, fun T hT => ⟨T, c, rfl, hT, hcx, rfl⟩⟩
  done := by
    intro X hP hw hK hc i pins s σ H E I hf st hg
    subst hP hw hK
    obtain ⟨⟨old, he⟩, hit, hne⟩ := st
    obtain ⟨f0, f1, f2, f3, f4, f5⟩ := hf it (by simp)
    obtain rfl : i = x.cps.size := hg
    exact wpAny_pyNext_enum_endD (Draws.text (prog := X.prog) (w := X.w) (A := X.A.in1) (I.ok.hd hc) it x t) he hit fun h' eb => ⟨rfl, I.turned (t' := s.toks) (fun b o hb q => eb b o hb q) f0 f1 f3 f4 f5⟩
  self := fun A i s Q E st h => let ⟨⟨_, he⟩, _⟩ := st; wpAny_pyIter_enum he h
theorem turn_enumL {P : Program} {w : World} {K : PySem.W.Frag} {elts : List Expr} {kk : Nat} {tpos : Pos} (a : Addr) (k : Int) (e it : Addr) :
    Turn P w K (.Tuple elts kk tpos) (IteC K a k) [e, it] e (fun i h => (∃ old, IsEnum h e it (k + ((i : Nat) : Int)) old) ∧ h.IsListIter it a i ∧ e ≠ it ∧ a ≠ it ∧ a ≠ e) where
  mem := by simp
  obj := fun i h st b hb => by
    obtain ⟨⟨old, he⟩, ⟨o, ho, hc, hd⟩, _⟩ := st
    have e' : b = e ∨ b = it := by simpa using hb
    rcases e' with z | z
    · rw [z]; exact ⟨_, he, fun v q => nomatch q⟩
    · rw [z]; exact ⟨o, ho, fun v q => by rw [hd] at q; cases q⟩
  keep := fun i h h' st k => let ⟨⟨old, he⟩, hi, hne⟩ := st; ⟨⟨old, k e (by simp) _ he⟩, hi.at fun o q => k it (by simp) o q, hne⟩
  item := by
    intro X hP hw hK hc i pins s σ H E I hf st hg
    subst hP hw hK
    obtain ⟨⟨old, he⟩, hit, hne, hai, hae⟩ := st
    obtain ⟨xs, x, hq, hx⟩ := hg
    obtain ⟨its, rv, p, hz⟩ := I.list hq
    obtain ⟨u, hu, ru⟩ := rv.get hx
    have hil : it < s.heap.objs.size := by obtain ⟨_, q, _⟩ := hit; exact Heap.lt_size q
    have hsz : its.length = xs.length := rv.length.symm
    have hi : i < its.toArray.size := by
      have := (List.getElem?_eq_some_iff.mp hx).1
      simp; omega
    refine enum_turn (fq := [e, it]) (fp := [it, a]) (n := its.toArray.size) (Pd := fun i v => its.toArray[i]? = some v) (Sd := fun i h => h.IsListIter it a i ∧ h.IsList a its.toArray) (yld := (IteC X.K a k).yld i H) (tn := fun h => (∃ old, IsEnum h e it (k + ((i + 1 : Nat) : Int)) old) ∧ h.IsListIter it a (i + 1) ∧ e ≠ it ∧ a ≠ it ∧ a ≠ e) I (Draws.list (A := X.A.in1) (I.ok.hd hc) it a hai its.toArray) he ⟨hit, p.isList⟩ hi hne (by simp [hne, Ne.symm hae]) (fun b => by simp) hf hil
      (fun u' hu' => ?_) (fun h' q b => ⟨q, b.1, hne, hai, hae⟩) (fun h1 h2 b hk => ⟨b.1.at fun o q => hk it o (Ne.symm hne) q, b.2.at fun o q => hk a o hae q⟩)
    have eu : u' = u := by
      have : its[i]? = some u' := by simpa using hu'
      rw [hu] at this
      exact (Option.some.inj this).symm
    subst eu
    exact ⟨x, ru, fun T hT => ⟨T, x, rfl, hT, rfl, fun ys hy => by rw [I.list_inj hy hq]; exact hx⟩⟩
  done := by
    intro X hP hw hK hc i pins s σ H E I hf st hg
    subst hP hw hK
    obtain ⟨⟨old, he⟩, hit, hne, hai, hae⟩ := st
    obtain ⟨xs, hq, hx⟩ := hg
    obtain ⟨its, rv, p, hz⟩ := I.list hq
    obtain ⟨f0, f1, f2, f3, f4, f5⟩ := hf it (by simp)
    have hsz : i = its.toArray.size := by
      have := rv.length
      simp; omega
    subst hsz
    exact wpAny_pyNext_enum_endD (Draws.list (prog := X.prog) (w := X.w) (A := X.A.in1) (I.ok.hd hc) it a hai its.toArray) he ⟨hit, p.isList⟩ fun h' eb => ⟨rfl, I.turned (t' := s.toks) (fun b o hb q => eb b o hb q) f0 f1 f3 f4 f5⟩
  self := fun A i s Q E st h => let ⟨⟨_, he⟩, _⟩ := st; wpAny_pyIter_enum he h
/-- enumerate(v, k) of a text or a list -/
def iEnumC (K : PySem.W.Frag) (ta : TA) : TI := fun σ H R => ta σ H fun vs H1 => ∃ (v : V) (k : Int), vs = [v, .int k] ∧ (0 ≤ k ∧ k ≤ 1000) ∧ ((∃ x, v = .str x ∧ R (ItsC x k) H1) ∨ ∃ a xs, v = .ref a ∧ SqL K H1 a xs ∧ R (IteC K a k) H1)
theorem pi_enumC {e e2 : Expr} {ta : TA} {p pos tpos : Pos} {elts : List Expr} {kk : Nat} (hg : Gl X "enumerate") (hm : X.mg "enumerate" = none) (ha : PA X [e, e2] ta)
    (hs : starEach [e, e2] X.env = (false, eval e X.env) :: starEach [e2] X.env := by rfl) (hpl : (backTo pos (starEach [e2] X.env)).any (·.1) = false := by rfl) :
    PI X (.Tuple elts kk tpos) (.Call (.Name "enumerate" p) [e, e2] [] pos) (iEnumC X.K ta) := by
  refine ⟨fun pins s σ H R I h => ?_⟩
  refine Call_ (ld_blt I hg hm boot_enumerate (PyProof.Rows.callWith_type1 (thn (ha.run pos pins s σ H _ I h) fun us s1 ⟨vs, H1, I1, r1, q1⟩ => ?_) hs hpl))
  obtain ⟨v, k, ex, ⟨k0, k1⟩, q⟩ := q1
  subst ex
  obtain ⟨u, u', rfl, rv, t, rfl⟩ := vals2 r1
  have fin : ∀ b : Addr, b = s1.heap.objs.size + 1 ∨ b = s1.heap.objs.size → FpOk X pins H1 b := fun b e' => by
    have hle : s1.heap.objs.size ≤ b := by
      rcases e' with z | z
      · rw [z]; exact Nat.le_add_right _ _
      · rw [z]; exact Nat.le_refl _
    exact I1.fpOk hle (I1.hok.fresh hle)
  rcases q with ⟨x, rfl, q⟩ | ⟨a, xs, rfl, hq, q⟩
  · obtain ⟨tx, rfl⟩ := rv
    refine enum_begins (begins_text x tx) trivial (by omega) (by omega) fun h' he hit hsz hk => wpAny_pyIter_enum he ?_
    have I2 : Inv X pins σ H1 { s1 with heap := h' } := I1.kept (t' := s1.toks) hk
    refine ⟨s1.heap.objs.size + 1, [s1.heap.objs.size + 1, s1.heap.objs.size], _, _, H1, rfl, I2, turn_enumS x tx k (s1.heap.objs.size + 1) s1.heap.objs.size, ⟨⟨.none, by simpa using he⟩, ⟨_, hit, rfl, rfl⟩, Nat.succ_ne_self _⟩, fun b hb => fin b (by simpa using hb), q⟩
  · cases rv
    obtain ⟨its, rv', p', hz⟩ := I1.list hq
    refine enum_begins (begins_list a its.toArray) p'.isList (by omega) (by omega) fun h' he hit hsz hk => wpAny_pyIter_enum he ?_
    have I2 : Inv X pins σ H1 { s1 with heap := h' } := I1.kept (t' := s1.toks) hk
    have hal : a < s1.heap.objs.size := by
      obtain ⟨o, ho, _⟩ := p'.isList
      exact Heap.lt_size ho
    refine ⟨s1.heap.objs.size + 1, [s1.heap.objs.size + 1, s1.heap.objs.size], _, _, H1, rfl, I2, turn_enumL a k (s1.heap.objs.size + 1) s1.heap.objs.size, ⟨⟨.none, by simpa using he⟩, ⟨_, hit, rfl, rfl⟩, Nat.succ_ne_self _, Nat.ne_of_lt hal, Nat.ne_of_lt (Nat.lt_succ_of_lt hal)⟩, fun b hb => fin b (by simpa using hb), q⟩
end
theorem for_enumS {x : Str} {k : Int} {g : TG} {tb : TS} {D : Ends} {σ : L2.St} {H : Hp} (Pv : Nat → L2.St → Hp → Prop) (h0 : Pv 0 σ H)
    (hs : ∀ (i c : Nat) (T : Addr) (σ : L2.St) (H : Hp), x.cps[i]? = some c → Pv i σ H → H T = none → g (.ref T) σ (upd H T (.tup [.int (k + (i : Nat)), .str ⟨#[c]⟩])) fun σ2 H2 => tb { D with nx := Pv (i + 1), ct := Pv (i + 1), bk := D.nx } σ2 H2) (hd : ∀ σ H, Pv x.cps.size σ H → D.nx σ H) :
    ∃ W : Nat → Nat → L2.St → Hp → Prop, (∃ m, W 0 m σ H) ∧ ∀ i m σ H, W i m σ H →
      ((ItsC x k).stop i H ∧ D.nx σ H) ∨ ((ItsC x k).go i H ∧ ∃ N : L2.St → Hp → Prop, (∀ σ' H', N σ' H' → ∃ m', m' < m ∧ W (i + 1) m' σ' H') ∧ ∀ v H', (ItsC x k).yld i H v H' → g v σ H' fun σ2 H2 => tb { D with nx := N, ct := N, bk := D.nx } σ2 H2) := by
  refine ⟨fun i m σ H => m = x.cps.size - i ∧ i ≤ x.cps.size ∧ Pv i σ H, ⟨x.cps.size, rfl, Nat.zero_le _, h0⟩, ?_⟩
  rintro i m σ H ⟨rfl, hi, p⟩
  by_cases hlt : i < x.cps.size
  · refine .inr ⟨hlt, Pv (i + 1), fun σ' H' p' => ⟨x.cps.size - (i + 1), by omega, rfl, hlt, p'⟩, fun v H' y => ?_⟩
    obtain ⟨T, c, rfl, hT, hc, rfl⟩ := y
    exact hs i c T σ H hc p hT
  · have e : i = x.cps.size := by omega
    subst e
    exact .inl ⟨rfl, hd σ H p⟩
theorem for_enumLC {K : PySem.W.Frag} {a : Addr} {xs : List V} {k : Int} {g : TG} {tb : TS} {D : Ends} {σ : L2.St} {H : Hp} (Pv : Nat → L2.St → Hp → Prop) (h0 : Pv 0 σ H) (hl : ∀ i σ H, i ≤ xs.length → Pv i σ H → SqL K H a xs)
    (hs : ∀ (i : Nat) (x : V) (T : Addr) (σ : L2.St) (H : Hp), xs[i]? = some x → Pv i σ H → H T = none → g (.ref T) σ (upd H T (.tup [.int (k + (i : Nat)), x])) fun σ2 H2 => tb { D with nx := Pv (i + 1), ct := Pv (i + 1), bk := D.nx } σ2 H2) (hd : ∀ σ H, Pv xs.length σ H → D.nx σ H) :
    ∃ W : Nat → Nat → L2.St → Hp → Prop, (∃ m, W 0 m σ H) ∧ ∀ i m σ H, W i m σ H →
      ((IteC K a k).stop i H ∧ D.nx σ H) ∨ ((IteC K a k).go i H ∧ ∃ N : L2.St → Hp → Prop, (∀ σ' H', N σ' H' → ∃ m', m' < m ∧ W (i + 1) m' σ' H') ∧ ∀ v H', (IteC K a k).yld i H v H' → g v σ H' fun σ2 H2 => tb { D with nx := N, ct := N, bk := D.nx } σ2 H2) := by
  refine ⟨fun i m σ H => m = xs.length - i ∧ i ≤ xs.length ∧ Pv i σ H, ⟨xs.length, rfl, Nat.zero_le _, h0⟩, ?_⟩
  rintro i m σ H ⟨rfl, hi, p⟩
  have q := hl i σ H hi p
  by_cases hlt : i < xs.length
  · have hx : xs[i]? = some xs[i] := List.getElem?_eq_getElem hlt
    refine .inr ⟨⟨xs, _, q, hx⟩, Pv (i + 1), fun σ' H' p' => ⟨xs.length - (i + 1), by omega, rfl, hlt, p'⟩, fun v H' y => ?_⟩
    obtain ⟨T, x, rfl, hT, rfl, hf⟩ := y
    exact hs i x T σ H (hf xs q) p hT
  · have e : i = xs.length := by omega
    subst e
    exact .inl ⟨⟨xs, q, rfl⟩, hd σ H p⟩
/-! ### isinstance of data -/
theorem kit2 {K : PySem.W.Frag} {a b c : String} {r1 r2 : Bool} (h1 : kitB a b = some r1) (h2 : kitB a c = some r2) : PySem.W.kitAny K (.type a) [.type b, .type c] = some (r1 || r2) := by
  refine kitAny_cons (kit_ty h1) (fun e => ?_) (fun e => by rw [e]; rfl)
  subst e
  refine kitAny_cons (kit_ty h2) (fun e => ?_) (fun e => by rw [e]; rfl)
  subst e
  rfl
/-- x is True, x None or a bool -/
theorem op_isB {X : Cx} : OpR X (compareOp .Is) (fun x y H Q => ∃ b, y = .bl b ∧ (x = .non ∨ ∃ a, x = .bl a) ∧ Q (.bl (decide (x = y))) H) := by
  intro pins s σ H x y v u Q I rx ry h
  obtain ⟨b, rfl, hx, q⟩ := h
  cases (show u = Value.bool b from ry)
  rcases hx with rfl | ⟨a, rfl⟩
  · cases (show v = Value.none from rx)
    exact wpAny_is_other rfl (fun z => by cases z) ⟨.bl false, H, I, rfl, by simpa using q⟩
  · cases (show v = Value.bool a from rx)
    by_cases e : a = b
    · subst e
      exact wpAny_is_self rfl ⟨.bl true, H, I, rfl, by simpa using q⟩
    · exact wpAny_is_other rfl (fun z => e (Value.bool.inj z)) ⟨.bl false, H, I, rfl, by simpa [e] using q⟩
/-! ### a for over a list or a tuple -/
def iSeq (K : PySem.W.Frag) (tl : TE) : TI := fun σ H R => tl σ H fun x H1 => ∃ a, x = .ref a ∧ (((∃ xs, SqL K H1 a xs) ∧ R (Itl K a) H1) ∨ ((∃ xs, SqT K H1 a xs) ∧ R (Itt K a) H1))
theorem pi_seq {X : Cx} {tg l : Expr} {tl : TE} (hl : PE X l tl) : PI X tg l (iSeq X.K tl) := by
  refine ⟨fun pins s σ H R I h => ?_⟩
  refine thn (hl.run pins s σ H _ I h) fun v s1 ⟨x, H1, I1, r1, q1⟩ => ?_
  obtain ⟨a, e, q1⟩ := q1
  subst e
  cases r1
  have fin : ∀ b ∈ [s1.heap.objs.size], FpOk X pins H1 b := fun b hb => by
    have e : b = s1.heap.objs.size := by simpa using hb
    subst e
    exact I1.fpOk (Nat.le_refl _) (I1.hok.fresh (Nat.le_refl _))
  rcases q1 with ⟨⟨xs, hq⟩, q⟩ | ⟨⟨xs, hq⟩, q⟩
  · obtain ⟨its, rv, p, hz⟩ := I1.list hq
    refine wpAny_pyIter_list p.isList ?_
    exact ⟨s1.heap.objs.size, [s1.heap.objs.size], _, _, H1, rfl, I1.kept (t' := s1.toks) fun b o e => Heap.get?_push_of_some _ e, turn_list a _, ⟨_, Heap.get?_push_size _ rfl, rfl, rfl⟩, fin, q⟩
  · obtain ⟨its, rv, p, hz⟩ := I1.tuple hq
    refine wpAny_pyIter_tuple (show s1.heap.IsTuple a its.toArray from p) ?_
    exact ⟨s1.heap.objs.size, [s1.heap.objs.size], _, _, H1, rfl, I1.kept (t' := s1.toks) fun b o e => Heap.get?_push_of_some _ e, turn_tuple a _, ⟨_, Heap.get?_push_size _ rfl, rfl, rfl⟩, fin, q⟩
/-! ### heaps -/
theorem Same.tup {K : PySem.W.Frag} {H H' : Hp} {a : Addr} {xs : List V} (e : Same H H') (h : SqT K H a xs) : SqT K H' a xs := by
  rcases h with (h | ⟨o, h⟩) | h
  · exact .inl (.inl (e _ _ h))
  · exact .inl (.inr ⟨o, e _ _ h⟩)
  · exact .inr h
mutual
theorem dp_mono {K : PySem.W.Frag} {H H' : Hp} (e : Same H H') : ∀ (d : PyData) (v : V), Dp K H v d → Dp K H' v d
  | .none, _, h => by cases h; exact .non
  | .bool b, _, h => by cases h; exact .bl b
  | .int i, _, h => by cases h; exact .int i
  | .str x, _, h => by cases h; exact .str x
  | .list ds, _, h => by cases h with | lst h1 h2 => exact .lst (e.seq h1) (dpAll_mono e ds _ h2)
  | .tuple ds, _, h => by cases h with | tup h1 h2 => exact .tup (Same.tup e h1) (dpAll_mono e ds _ h2)
  | .dict _, _, h => by cases h
theorem dpAll_mono {K : PySem.W.Frag} {H H' : Hp} (e : Same H H') : ∀ (ds : List PyData) (vs : List V), DpAll K H vs ds → DpAll K H' vs ds
  | [], _, h => by cases h; exact .nil
  | d :: ds, _, h => by cases h with | cons h1 h2 => exact .cons (dp_mono e d _ h1) (dpAll_mono e ds _ h2)
end
theorem dpAll_len {K : PySem.W.Frag} {H : Hp} : ∀ {vs : List V} {ds : List PyData}, DpAll K H vs ds → vs.length = ds.length
  | _, _, .nil => rfl
  | _, _, .cons _ t => by rw [List.length_cons, List.length_cons, dpAll_len t]
theorem dpAll_get {K : PySem.W.Frag} {H : Hp} : ∀ {vs : List V} {ds : List PyData}, DpAll K H vs ds → ∀ (i : Nat) (v : V), vs[i]? = some v → ∃ d, ds[i]? = some d ∧ Dp K H v d
  | _, _, .nil, i, v, h => by simp at h
  | _, _, .cons a t, 0, v, h => by simp at h; subst h; exact ⟨_, rfl, a⟩
  | _, _, .cons a t, i + 1, v, h => by
    obtain ⟨d, h1, h2⟩ := dpAll_get t i v (by simpa using h)
    exact ⟨d, by simpa using h1, h2⟩
theorem dpAll_snoc {K : PySem.W.Frag} {H : Hp} : ∀ {vs : List V} {ds : List PyData} {v : V} {d : PyData}, DpAll K H vs ds → Dp K H v d → DpAll K H (vs ++ [v]) (ds ++ [d])
  | _, _, _, _, .nil, h => .cons h .nil
  | _, _, _, _, .cons a t, h => .cons a (dpAll_snoc t h)
theorem tyL {K : PySem.W.Frag} {H : Hp} {a : Addr} {xs : List V} (h : SqL K H a xs) : TyX K H (.ref a) (.type "list") := by
  rcases h with (h | ⟨o, h⟩) | ⟨o, its, n, h1, h2, _⟩
  · exact .base (.lst h)
  · exact .base (.frz h)
  · exact .kList h1 h2
theorem tyT {K : PySem.W.Frag} {H : Hp} {a : Addr} {xs : List V} (h : SqT K H a xs) : TyX K H (.ref a) (.type "tuple") := by
  rcases h with (h | ⟨o, h⟩) | ⟨o, its, n, h1, h2, _⟩
  · exact .base (.tup h)
  · exact .fTuple h
  · exact .kTuple h1 h2
/-- data without dicts, at most n levels deep, no list too long -/
def okD : Nat → PyData → Prop
  | _, .none => True
  | _, .bool _ => True
  | _, .int _ => True
  | _, .str _ => True
  | n + 1, .list xs => xs.length ≤ 50000 ∧ ∀ x ∈ xs, okD n x
  | n + 1, .tuple xs => xs.length ≤ 50000 ∧ ∀ x ∈ xs, okD n x
  | _, _ => False
mutual
/-- what _law_plain makes -/
def plainD : PyData → PyData
  | .none => .str "None"
  | .bool b => .str (if b = true then "True" else "False")
  | .int i => .list [.bool false, .int i]
  | .str s => .list [.bool true, .str s]
  | .list xs => .list (.bool true :: plainAll xs)
  | .tuple xs => .list (.bool false :: plainAll xs)
  | .dict _ => .str "another"
def plainAll : List PyData → List PyData
  | [] => []
  | d :: ds => plainD d :: plainAll ds
end
theorem plainAll_map : ∀ ds : List PyData, plainAll ds = ds.map plainD
  | [] => by rw [plainAll]; rfl
  | d :: ds => by rw [plainAll, plainAll_map ds]; rfl
/-- v' is data d that stands on what came new behind H, as H' has it -/
def NewD (K : PySem.W.Frag) (H H' : Hp) (v : V) (d : PyData) : Prop := ∀ H2 : Hp, (∀ b o, H' b = some o → H b = none → H2 b = some o) → Dp K H2 v d
/-- items that stand on what came new behind H, all but D -/
def NewAll (K : PySem.W.Frag) (H : Hp) (D : Addr) (H' : Hp) (vs : List V) (ds : List PyData) : Prop := ∀ H2 : Hp, (∀ b o, H' b = some o → H b = none → b ≠ D → H2 b = some o) → DpAll K H2 vs ds
theorem none_of_same {H H' : Hp} {b : Addr} (e : Same H H') (h : H' b = none) : H b = none := e.free h
theorem NewAll.snoc {K : PySem.W.Frag} {H H1 H2 : Hp} {D : Addr} {vs : List V} {ds : List PyData} {v : V} {d : PyData} {o : HO} {z : HO} (h : NewAll K H D H1 vs ds) (hs : Same H H1) (hD : H1 D = some o) (s : Same H1 H2) (n : NewD K H1 H2 v d) : NewAll K H D (upd H2 D z) (vs ++ [v]) (ds ++ [d]) := fun H3 k =>
  dpAll_snoc (h H3 fun b o e n0 nD => k b o (by rw [upd_ne nD]; exact s b o e) n0 nD) (n H3 fun b u e n1 => by
    have nD : b ≠ D := fun z => by rw [z, hD] at n1; cases n1
    exact k b u (by rw [upd_ne nD]; exact e) (hs.free n1) nD)
theorem NewD.dp {K : PySem.W.Frag} {H H' : Hp} {v : V} {d : PyData} (h : NewD K H H' v d) : Dp K H' v d := h H' fun _ _ e _ => e
theorem same_upd {H : Hp} {p : Addr} {o : HO} (h : H p = none) : Same H (upd H p o) := fun b x e => by
  rw [upd_ne (ne_of_none e h)]
  exact e
/-- a new object changes -/
theorem same_mut {H H' : Hp} {p : Addr} {o : HO} (e : Same H H') (h : H p = none) : Same H (upd H' p o) := fun b x q => by
  rw [upd_ne (ne_of_none q h)]
  exact e b x q
/-- all but p is kept -/
def Kp (p : Addr) (H H' : Hp) : Prop := ∀ b o, H b = some o → b ≠ p → H' b = some o
theorem Kp.refl (p : Addr) (H : Hp) : Kp p H H := fun _ _ e _ => e
theorem Kp.trans {p : Addr} {H H1 H2 : Hp} (a : Kp p H H1) (b : Kp p H1 H2) : Kp p H H2 := fun c o e n => b c o (a c o e n) n
theorem Kp.of {p : Addr} {H H' : Hp} (h : Same H H') : Kp p H H' := fun b o e _ => h b o e
theorem Kp.upd {p : Addr} {H : Hp} {o : HO} : Kp p H (upd H p o) := fun b u e n => by rw [upd_ne n]; exact e
theorem ite_c {b : Bool} {x y : V} {σ : L2.St} {H : Hp} {Q : VK} (h : Q (if b = true then x else y) H) : if b = true then tC x σ H Q else tC y σ H Q := by
  cases b with
  | true => exact h
  | false => exact h
theorem if_int {b : Bool} {i j : Int} : (if b = true then V.int i else V.int j) = V.int (if b = true then i else j) := by cases b <;> rfl
/-- atI by places -/
theorem atI_ofNat {α : Type} {xs : List α} {i : Int} {v : α} (h0 : 0 ≤ i) (h : xs[i.toNat]? = some v) : atI xs i = some v := by
  have e : i = ((i.toNat : Nat) : Int) := by omega
  rw [e]
  exact atI_nat h
theorem atI_neg {α : Type} {xs : List α} {i : Int} {v : α} (h0 : i < 0) (h1 : -(xs.length : Int) ≤ i) (h : xs[(i + xs.length).toNat]? = some v) : atI xs i = some v := by
  have e : ixN xs.length i = some (i + xs.length).toNat := by
    unfold ixN
    rw [if_neg (by omega), if_pos h1]
  unfold atI
  rw [e]
  exact h
end Tw
set_option linter.all false
/-! The distance of two words, from their ends: the words stand reversed. -/
namespace Lv
def lev : List Nat → List Nat → Nat
  | [], ys => ys.length
  | x :: xs, [] => xs.length + 1
  | x :: xs, y :: ys =>
    let a := min (min (lev xs ys + (if x = y then 0 else 1)) (lev xs (y :: ys) + 1)) (lev (x :: xs) ys + 1)
    match xs, ys with
    | x2 :: xs', y2 :: ys' => if x = y2 ∧ x2 = y then min a (lev xs' ys' + 1) else a
    | _, _ => a
termination_by xs ys => xs.length + ys.length
decreasing_by all_goals (simp_wf; try omega)
theorem lev_nil (ys : List Nat) : lev [] ys = ys.length := by rw [lev]
theorem lev_nil' (xs : List Nat) : lev xs [] = xs.length := by cases xs <;> simp [lev]
/-- the first three steps -/
def base (x y : Nat) (xs ys : List Nat) : Nat := min (min (lev xs ys + (if x = y then 0 else 1)) (lev xs (y :: ys) + 1)) (lev (x :: xs) ys + 1)
theorem lev_1 (x y : Nat) (ys : List Nat) : lev [x] (y :: ys) = base x y [] ys := by rw [lev]; rfl; intros; simp_all
theorem lev_2 (x y : Nat) (xs : List Nat) : lev (x :: xs) [y] = base x y xs [] := by rw [lev]; rfl; intros; simp_all
theorem lev_c (x x2 y y2 : Nat) (xs ys : List Nat) : lev (x :: x2 :: xs) (y :: y2 :: ys) = if x = y2 ∧ x2 = y then min (base x y (x2 :: xs) (y2 :: ys)) (lev xs ys + 1) else base x y (x2 :: xs) (y2 :: ys) := by
  rw [lev]; rfl
theorem lev_le_base (x y : Nat) (xs ys : List Nat) : lev (x :: xs) (y :: ys) ≤ base x y xs ys := by
  cases xs with
  | nil => rw [lev_1]; exact Nat.le_refl _
  | cons x2 xs =>
    cases ys with
    | nil => rw [lev_2]; exact Nat.le_refl _
    | cons y2 ys => rw [lev_c]; split <;> omega
theorem lev_sub (x y : Nat) (xs ys : List Nat) : lev (x :: xs) (y :: ys) ≤ lev xs ys + (if x = y then 0 else 1) := by
  have h := lev_le_base x y xs ys
  unfold base at h
  omega
theorem lev_del (x : Nat) (xs ys : List Nat) : lev (x :: xs) ys ≤ lev xs ys + 1 := by
  cases ys with
  | nil => rw [lev_nil', lev_nil']; exact Nat.le_refl _
  | cons y ys =>
    have h := lev_le_base x y xs ys
    unfold base at h
    omega
theorem lev_ins (y : Nat) (xs ys : List Nat) : lev xs (y :: ys) ≤ lev xs ys + 1 := by
  cases xs with
  | nil => rw [lev_nil, lev_nil]; exact Nat.le_refl _
  | cons x xs =>
    have h := lev_le_base x y xs ys
    unfold base at h
    omega
theorem lev_swap (a b : Nat) (xs ys : List Nat) : lev (a :: b :: xs) (b :: a :: ys) ≤ lev xs ys + 1 := by
  rw [lev_c, if_pos ⟨rfl, rfl⟩]
  exact Nat.min_le_right _ _
/-- by the steps: a relation that each way of the recursion keeps -/
theorem lev_rec {P : List Nat → List Nat → Prop} (h0 : ∀ ys, P [] ys) (h1 : ∀ x xs, P (x :: xs) [])
    (h : ∀ x y xs ys, P xs ys → P xs (y :: ys) → P (x :: xs) ys → (∀ x2 y2 xs' ys', xs = x2 :: xs' → ys = y2 :: ys' → P xs' ys') → P (x :: xs) (y :: ys)) : ∀ xs ys, P xs ys := by
  have g : ∀ (n : Nat) xs ys, xs.length + ys.length ≤ n → P xs ys := by
    intro n
    induction n with
    | zero =>
      intro xs ys hn
      cases xs with
      | nil => exact h0 ys
      | cons x xs => simp at hn
    | succ n ih =>
      intro xs ys hn
      cases xs with
      | nil => exact h0 ys
      | cons x xs =>
        cases ys with
        | nil => exact h1 x xs
        | cons y ys =>
          simp only [List.length_cons] at hn
          refine h x y xs ys (ih _ _ (by omega)) (ih _ _ (by simp only [List.length_cons]; omega)) (ih _ _ (by simp only [List.length_cons]; omega)) fun x2 y2 xs' ys' e1 e2 => ?_
          subst e1 e2
          simp only [List.length_cons] at hn
          exact ih _ _ (by omega)
  exact fun xs ys => g _ xs ys (Nat.le_refl _)
theorem base_comm (x y : Nat) (xs ys : List Nat) (h1 : lev xs ys = lev ys xs) (h2 : lev xs (y :: ys) = lev (y :: ys) xs) (h3 : lev (x :: xs) ys = lev ys (x :: xs)) : base x y xs ys = base y x ys xs := by
  unfold base
  rw [h1, h2, h3]
  have e : (if x = y then 0 else 1) = (if y = x then 0 else 1) := by
    by_cases q : x = y
    · rw [if_pos q, if_pos q.symm]
    · rw [if_neg q, if_neg fun z => q z.symm]
  rw [e]
  omega
theorem lev_comm : ∀ xs ys, lev xs ys = lev ys xs := by
  refine lev_rec (fun ys => by rw [lev_nil, lev_nil']) (fun x xs => by rw [lev_nil, lev_nil']) fun x y xs ys h1 h2 h3 h4 => ?_
  cases xs with
  | nil => rw [lev_1, lev_2]; exact base_comm x y _ _ h1 h2 h3
  | cons x2 xs =>
    cases ys with
    | nil => rw [lev_2, lev_1]; exact base_comm x y _ _ h1 h2 h3
    | cons y2 ys =>
      rw [lev_c, lev_c, base_comm x y _ _ h1 h2 h3, h4 x2 y2 xs ys rfl rfl]
      have e : (x = y2 ∧ x2 = y) ↔ (y = x2 ∧ y2 = x) := ⟨fun ⟨a, b⟩ => ⟨b.symm, a.symm⟩, fun ⟨a, b⟩ => ⟨b.symm, a.symm⟩⟩
      by_cases q : x = y2 ∧ x2 = y
      · rw [if_pos q, if_pos (e.mp q)]
      · rw [if_neg q, if_neg fun z => q (e.mpr z)]
/-- a lower bound that the steps keep -/
theorem lev_low (m : List Nat → List Nat → Nat) (h0 : ∀ ys, m [] ys ≤ ys.length) (h1 : ∀ xs, m xs [] ≤ xs.length)
    (hs : ∀ x y xs ys, m (x :: xs) (y :: ys) ≤ m xs ys + (if x = y then 0 else 1)) (hd : ∀ x xs y ys, m (x :: xs) (y :: ys) ≤ m xs (y :: ys) + 1) (hi : ∀ x xs y ys, m (x :: xs) (y :: ys) ≤ m (x :: xs) ys + 1)
    (hw : ∀ a b xs ys, m (a :: b :: xs) (b :: a :: ys) ≤ m xs ys + 1) : ∀ xs ys, m xs ys ≤ lev xs ys := by
  refine lev_rec (fun ys => by rw [lev_nil]; exact h0 ys) (fun x xs => by rw [lev_nil']; exact h1 _) fun x y xs ys p1 p2 p3 p4 => ?_
  have hb : m (x :: xs) (y :: ys) ≤ base x y xs ys := by
    have a := hs x y xs ys
    have b := hd x xs y ys
    have c := hi x xs y ys
    unfold base
    omega
  cases xs with
  | nil => rw [lev_1]; exact hb
  | cons x2 xs =>
    cases ys with
    | nil => rw [lev_2]; exact hb
    | cons y2 ys =>
      rw [lev_c]
      split
      · rename_i q
        obtain ⟨q1, q2⟩ := q
        subst q1 q2
        have a := hw x x2 xs ys
        have b := p4 x2 x xs ys rfl rfl
        omega
      · exact hb
theorem lev_len (xs ys : List Nat) : xs.length ≤ ys.length + lev xs ys := by
  have h := lev_low (fun xs ys => xs.length - ys.length) (fun ys => by simp) (fun xs => by simp) (fun x y xs ys => by simp only [List.length_cons]; omega) (fun x xs y ys => by simp only [List.length_cons]; omega) (fun x xs y ys => by simp only [List.length_cons]; omega)
    (fun a b xs ys => by simp only [List.length_cons]; omega) xs ys
  have h' : xs.length - ys.length ≤ lev xs ys := h
  omega
theorem lev_len' (xs ys : List Nat) : ys.length ≤ xs.length + lev xs ys := by
  rw [lev_comm]
  exact lev_len ys xs
theorem lev_self (xs : List Nat) : lev xs xs = 0 := by
  induction xs with
  | nil => rw [lev_nil]; rfl
  | cons x xs ih =>
    have h := lev_sub x x xs xs
    rw [if_pos rfl, ih] at h
    omega
theorem lev_zero (xs ys : List Nat) : lev xs ys = 0 ↔ xs = ys := by
  constructor
  · intro h
    have h' := lev_low (fun xs ys => if xs = ys then 0 else 1) (fun ys => by cases ys <;> simp) (fun xs => by cases xs <;> simp)
      (fun x y xs ys => by
        by_cases a : x = y
        · by_cases b : xs = ys
          · simp [a, b]
          · simp [a, b]
        · simp [a])
      (fun x xs y ys => by split <;> omega) (fun x xs y ys => by split <;> omega) (fun a b xs ys => by split <;> omega) xs ys
    rw [h] at h'
    by_cases q : xs = ys
    · exact q
    · have z : (if xs = ys then 0 else 1) ≤ 0 := h'
      rw [if_neg q] at z
      omega
  · rintro rfl
    exact lev_self xs
theorem lev_pre (s xs ys : List Nat) : lev (s ++ xs) (s ++ ys) ≤ lev xs ys := by
  induction s with
  | nil => exact Nat.le_refl _
  | cons c s ih =>
    have h := lev_sub c c (s ++ xs) (s ++ ys)
    rw [if_pos rfl] at h
    show lev (c :: (s ++ xs)) (c :: (s ++ ys)) ≤ _
    omega
/-- letters of which none is common -/
theorem lev_apart (a b : Nat) (hab : a ≠ b) (n : Nat) : lev (List.replicate n a) (List.replicate n b) = n := by
  have up : ∀ n, lev (List.replicate n a) (List.replicate n b) ≤ n := by
    intro n
    induction n with
    | zero => rw [List.replicate_zero, List.replicate_zero, lev_nil]; exact Nat.le_refl _
    | succ n ih =>
      rw [List.replicate_succ, List.replicate_succ]
      have h := lev_sub a b (List.replicate n a) (List.replicate n b)
      rw [if_neg hab] at h
      omega
  have lo := lev_low (fun xs ys => if (∀ x ∈ xs, x = a) ∧ (∀ y ∈ ys, y = b) then ys.length else 0)
    (fun ys => by split <;> simp) (fun xs => by split <;> simp)
    (fun x y xs ys => by
      by_cases h : (∀ z ∈ x :: xs, z = a) ∧ (∀ z ∈ y :: ys, z = b)
      · have e1 := h.1 x (by simp)
        have e2 := h.2 y (by simp)
        have h' : (∀ z ∈ xs, z = a) ∧ (∀ z ∈ ys, z = b) := ⟨fun z q => h.1 z (by simp [q]), fun z q => h.2 z (by simp [q])⟩
        rw [if_pos h, if_pos h', if_neg (by rw [e1, e2]; exact hab)]
        simp
      · rw [if_neg h]; omega)
    (fun x xs y ys => by
      by_cases h : (∀ z ∈ x :: xs, z = a) ∧ (∀ z ∈ y :: ys, z = b)
      · have h' : (∀ z ∈ xs, z = a) ∧ (∀ z ∈ y :: ys, z = b) := ⟨fun z q => h.1 z (by simp [q]), h.2⟩
        rw [if_pos h, if_pos h']
        omega
      · rw [if_neg h]; omega)
    (fun x xs y ys => by
      by_cases h : (∀ z ∈ x :: xs, z = a) ∧ (∀ z ∈ y :: ys, z = b)
      · have h' : (∀ z ∈ x :: xs, z = a) ∧ (∀ z ∈ ys, z = b) := ⟨h.1, fun z q => h.2 z (by simp [q])⟩
        rw [if_pos h, if_pos h']
        simp
      · rw [if_neg h]; omega)
    (fun c d xs ys => by
      by_cases h : (∀ z ∈ c :: d :: xs, z = a) ∧ (∀ z ∈ d :: c :: ys, z = b)
      · exact absurd ((h.1 c (by simp)).symm.trans (h.2 c (by simp))) hab
      · rw [if_neg h]; omega)
    (List.replicate n a) (List.replicate n b)
  have lo' : n ≤ lev (List.replicate n a) (List.replicate n b) := by
    have z : (if (∀ x ∈ List.replicate n a, x = a) ∧ (∀ y ∈ List.replicate n b, y = b) then (List.replicate n b).length else 0) ≤ _ := lo
    rw [if_pos ⟨fun x hx => List.eq_of_mem_replicate hx, fun y hy => List.eq_of_mem_replicate hy⟩, List.length_replicate] at z
    exact z
  exact Nat.le_antisymm (up n) lo'
example : lev [98, 97] [97, 98] = 1 := by simp [lev]
example : lev [97, 99] [99, 98, 97] = 3 := by simp [lev]
example : lev [] [99, 98, 97] = 3 := by simp [lev]
example : lev [100, 99, 98, 97] [99, 100, 97, 98] = 2 := by simp [lev]
end Lv
set_option Elab.async false
set_option linter.all false
set_option maxRecDepth 100000
set_option maxHeartbeats 4000000
namespace K41
open PySem PySem.Spec PyProof.Rows L2 Tw Lv
def topS (i : Nat) : Stmt := PySem.Challenge.pw_tellwork_k41_distances.main.body.getD i (.Pass ⟨0, 0, 0, 0⟩)
structure Tx (mg : Str → Option Value) : Prop where
  n_len : mg "len" = none
  n_range : mg "range" = none
  n_list : mg "list" = none
  n_tuple : mg "tuple" = none
  n_int : mg "int" = none
  n_bool : mg "bool" = none
  n_str : mg "str" = none
  n_enumerate : mg "enumerate" = none
  n_min : mg "min" = none
  n_max : mg "max" = none
  n_abs : mg "abs" = none
  n_isinstance : mg "isinstance" = none
/-! ### distance -/
/-- how far the first j letters of the one are from the first k of the other -/
def Dd (a b : List Nat) (j k : Nat) : Nat := lev (a.take j).reverse (b.take k).reverse
theorem Dd_0 (a b : List Nat) {k : Nat} (h : k ≤ b.length) : Dd a b 0 k = k := by
  unfold Dd
  rw [List.take_zero, List.reverse_nil, lev_nil, List.length_reverse, List.length_take]
  omega
theorem Dd_0' (a b : List Nat) {j : Nat} (h : j ≤ a.length) : Dd a b j 0 = j := by
  unfold Dd
  rw [List.take_zero, List.reverse_nil, lev_nil', List.length_reverse, List.length_take]
  omega
theorem take_rev {a : List Nat} {j c : Nat} (h : a[j]? = some c) : (a.take (j + 1)).reverse = c :: (a.take j).reverse := by
  rw [List.take_add_one, h]
  simp
theorem Dd_s (a b : List Nat) {j k c d : Nat} (hc : a[j]? = some c) (hd : b[k]? = some d) :
    Dd a b (j + 1) (k + 1) = if (0 < j ∧ 0 < k) ∧ b[k - 1]? = some c ∧ a[j - 1]? = some d then min (base c d (a.take j).reverse (b.take k).reverse) (Dd a b (j - 1) (k - 1) + 1) else base c d (a.take j).reverse (b.take k).reverse := by
  unfold Dd
  rw [take_rev hc, take_rev hd]
  cases j with
  | zero =>
    rw [if_neg (by omega), List.take_zero, List.reverse_nil]
    exact lev_1 _ _ _
  | succ j =>
    cases k with
    | zero =>
      rw [if_neg (by omega), List.take_zero, List.reverse_nil]
      exact lev_2 _ _ _
    | succ k =>
      have hj := (List.getElem?_eq_some_iff.mp hc).1
      have hk := (List.getElem?_eq_some_iff.mp hd).1
      have e1 : a[j]? = some a[j] := List.getElem?_eq_getElem (by omega)
      have e2 : b[k]? = some b[k] := List.getElem?_eq_getElem (by omega)
      rw [take_rev e1, take_rev e2, lev_c]
      have q : (c = b[k] ∧ a[j] = d) ↔ ((0 < j + 1 ∧ 0 < k + 1) ∧ b[k + 1 - 1]? = some c ∧ a[j + 1 - 1]? = some d) := by
        rw [Nat.add_sub_cancel, Nat.add_sub_cancel, e1, e2]
        constructor
        · rintro ⟨rfl, rfl⟩
          exact ⟨⟨by omega, by omega⟩, rfl, rfl⟩
        · rintro ⟨_, h1, h2⟩
          exact ⟨(Option.some.inj h1).symm, Option.some.inj h2⟩
      by_cases z : c = b[k] ∧ a[j] = d
      · rw [if_pos z, if_pos (q.mp z)]; rfl
      · rw [if_neg z, if_neg (fun y => z (q.mpr y))]
theorem Dd_base {a b : List Nat} {j k c d : Nat} (hc : a[j]? = some c) (hd : b[k]? = some d) : ((base c d (a.take j).reverse (b.take k).reverse : Nat) : Int) =
    min (min (((Dd a b j (k + 1) : Nat) : Int) + 1) ((Dd a b (j + 1) k : Nat) + 1)) ((Dd a b j k : Nat) + ((if c = d then 0 else 1 : Nat) : Int)) := by
  unfold Dd base
  rw [take_rev hc, take_rev hd]
  omega
theorem sign_inj {c d : Nat} (h : V.str ⟨#[c]⟩ = V.str ⟨#[d]⟩) : c = d := by
  injection h with h
  injection h with h
  have := congrArg Array.toList h
  simpa using this
def rowV (a b : List Nat) (j n : Nat) : List V := (List.range n).map fun k => V.int (Dd a b j k : Nat)
theorem rowV_len (a b : List Nat) (j n : Nat) : (rowV a b j n).length = n := by unfold rowV; simp
theorem rowV_get (a b : List Nat) (j : Nat) {n k : Nat} (h : k < n) : (rowV a b j n)[k]? = some (.int (Dd a b j k : Nat)) := by
  unfold rowV
  rw [List.getElem?_map, List.getElem?_range h]
  rfl
theorem rowV_succ (a b : List Nat) (j n : Nat) : rowV a b j (n + 1) = rowV a b j n ++ [.int (Dd a b j n : Nat)] := by
  unfold rowV
  rw [List.range_succ, List.map_append]
  rfl
theorem row0 (a b : List Nat) : rgV 0 ((b.length : Int) + 1) = rowV a b 0 (b.length + 1) := by
  unfold rowV rgV
  rw [show (((b.length : Int) + 1 - 0).toNat) = b.length + 1 by omega]
  refine List.map_congr_left fun i hi => ?_
  rw [Dd_0 a b (by have := List.mem_range.mp hi; omega)]
  congr 1
  omega
theorem rowV_snoc {a b : List Nat} {j n : Nat} {v : Int} (h : v = (Dd a b j n : Nat)) : rowV a b j n ++ [.int v] = rowV a b j (n + 1) := by rw [h, rowV_succ]
theorem row_last (a b : List Nat) (j n : Nat) : atI (rowV a b j (n + 1)) (-1) = some (.int (Dd a b j n : Nat)) := by
  rw [rowV_succ]
  exact atI_last _ _
/-- the rows that stand at r -/
def Rows (a b : List Nat) (H : Hp) (r : Addr) (i : Nat) : Prop := ∃ as : List Addr, as.length = i + 1 ∧ H r = some (.lst (as.map V.ref)) ∧ ∀ j p, as[j]? = some p → p ≠ r ∧ H p = some (.lst (rowV a b j (b.length + 1)))
def spDistance : Sp := fun vs H Q _ => ∃ a b : List Nat, vs = [.str (S a), .str (S b)] ∧ a.length ≤ 1000 ∧ b.length ≤ 1000 ∧ ∀ H', Same H H' → Q (.int (lev a.reverse b.reverse : Nat)) H'
section
variable {P : Program} {w : World} {K : PySem.W.Frag} {mg : Str → Option Value} {base : Heap}
abbrev s_distance : Stmt := topS 1
theorem sc_distance : FnScope ["one", "two", "rows", "at", "sign", "row", "other", "cost", "told"] ["one", "two"] (defScope s_distance) := ⟨rfl, rfl, rfl, by decide +kernel, rfl, by decide +kernel, by decide +kernel⟩
theorem cal_distance {f : Addr} {fd : FuncData} (F : Fun K "distance" "distance" s_distance f fd) (T : Tx mg) : FnOk P w K mg base CX0 1 f fd ["one", "two"] spDistance := by
  refine F.ok sc_distance (fun vs H Q E h => ?_) (fun cdv A outer s H vs Q E hr h => ?_)
  · obtain ⟨a, b, rfl, _⟩ := h
    rfl
  · obtain ⟨a, b, rfl, ha, hb, q⟩ := h
    refine ⟨_, (pss_cons (ps_set (i := 2) sc_distance.nd rfl (.inl rfl) (pe_lst (pa_cons (pe_listRg rfl rfl T.n_list (prg_1 rfl T.n_range (pe_op op_add (pe_callB call_len_str rfl T.n_len (by decide +kernel) (pa_cons (pv 1) pa_nil)) pe_int))) pa_nil)))
    (pss_cons (ps_for PassesOwn.never rfl (pi_enumC rfl T.n_enumerate (pa_cons (pv 0) (pa_cons pe_int pa_nil))) (pg_tup rfl (pgs_cons (pg_name (i := 3) sc_distance.nd rfl (.inl rfl)) (pgs_cons (pg_name (i := 4) sc_distance.nd rfl (.inl rfl)) pgs_nil)))
      (pss_cons (ps_set (i := 5) sc_distance.nd rfl (.inl rfl) (pe_lst (pa_cons (pv 3) pa_nil)))
      (pss_cons (ps_for PassesOwn.never rfl (pi_range2 rfl T.n_range (pa_cons pe_int (pa_cons (pe_op op_add (pe_callB call_len_str rfl T.n_len (by decide +kernel) (pa_cons (pv 1) pa_nil)) pe_int) pa_nil))) (pg_name (i := 6) sc_distance.nd rfl (.inl rfl))
        (pss_cons (ps_set (i := 7) sc_distance.nd rfl (.inl rfl) (pe_ifExp (pt_cmpR op_eq (pv 4) (pe_ix ix_str (pv 1) (pe_op op_sub (pv 6) pe_int) (fun _ _ => rfl)) (nomark _)) pe_int pe_int))
        (pss_cons (ps_set (i := 8) sc_distance.nd rfl (.inl rfl) (pe_callB (call_min3 rfl) rfl T.n_min (by decide +kernel) (pa_cons (pe_op op_add (pe_ix ix_list (pe_ix ix_list (pv 2) (pe_un un_neg pe_int) (fun _ _ => rfl)) (pv 6) (fun _ _ => rfl)) pe_int) (pa_cons (pe_op op_add (pe_ix ix_list (pv 5) (pe_un un_neg pe_int) (fun _ _ => rfl)) pe_int) (pa_cons (pe_op op_add (pe_ix ix_list (pe_ix ix_list (pv 2) (pe_un un_neg pe_int) (fun _ _ => rfl)) (pe_op op_sub (pv 6) pe_int) (fun _ _ => rfl)) (pv 7)) pa_nil)))))
        (C8.pss_cut (ps_if (PW.pt (pw_and (pt_cmpR op_gt (pv 3) pe_int (nomark _)) (pw_and (pt_cmpR op_gt (pv 6) pe_int (nomark _)) (pw_and (pt_cmpR op_eq (pv 4) (pe_ix ix_str (pv 1) (pe_op op_sub (pv 6) pe_int) (fun _ _ => rfl)) (nomark _)) (pw_and1 (pt_cmpR op_eq (pe_ix ix_str (pv 0) (pe_op op_sub (pv 3) pe_int) (fun _ _ => rfl)) (pe_ix ix_str (pv 1) (pe_op op_sub (pv 6) pe_int) (fun _ _ => rfl)) (nomark _)))))))
          (pss_one (ps_set (i := 8) sc_distance.nd rfl (.inl rfl) (pe_callB (call_min2' rfl) rfl T.n_min (by decide +kernel) (pa_cons (pv 8) (pa_cons (pe_op op_add (pe_ix ix_list (pe_ix ix_list (pv 2) (pe_un un_neg pe_int) (fun _ _ => rfl)) (pe_op op_sub (pv 6) pe_int) (fun _ _ => rfl)) pe_int) pa_nil)))))
          pss_nil)
        (pss_one (ps_expr (pe_bm PySem.F.plainAttrs_list PySem.F.slot_list_append PySem.F.type_list_append mt_append (pv 5) (pa_cons (pv 8) pa_nil))))))))
      (pss_one (ps_expr (pe_bm PySem.F.plainAttrs_list PySem.F.slot_list_append PySem.F.type_list_append mt_append (pv 2) (pa_cons (pv 5) pa_nil)))))))
    (pss_one (ps_ret (pe_ix ix_list (pe_ix ix_list (pv 2) (pe_un un_neg pe_int) (fun _ _ => rfl)) (pe_un un_neg pe_int) (fun _ _ => rfl)))))), ?_⟩
    have lb : (S b).length = b.length := S_len b
    have zb : (S b).length ≤ sizeLine := szL (by rw [lb]; omega)
    -- rows = [list(range(len(two) + 1))]
    refine ⟨.str (S b), rfl, S b, rfl, zb, _, _, rfl, rfl, _, rfl, RgOk.of_le (by omega) (by rw [lb]; omega) (by omega) (by omega), fun p1 n1 => ?_⟩
    refine ⟨by show 1 ≤ sizeLine; decide, fun r nr => ?_⟩
    have hr0 : H r = none := (same_upd n1).free nr
    -- for at, sign in enumerate(one, 1)
    refine ⟨.str (S a), rfl, .str (S a), 1, rfl, ⟨by omega, by omega⟩, .inl ⟨S a, rfl, ?_⟩⟩
    refine for_enumS (fun i σ H' => ∃ y3 y4 y5 y6 y7 y8, σ = [some (.str (S a)), some (.str (S b)), some (.ref r), y3, y4, y5, y6, y7, y8] ∧ Same H H' ∧ Rows a b H' r i) ?_ ?_ ?_
    · refine ⟨none, none, none, none, none, none, rfl, same_mut (same_upd n1) hr0, [p1], rfl, upd_same, fun j p hp => ?_⟩
      have e : j = 0 ∧ p1 = p := by
        cases j with
        | zero => exact ⟨rfl, Option.some.inj hp⟩
        | succ j => simp at hp
      obtain ⟨rfl, rfl⟩ := e
      have ne : p1 ≠ r := fun z => by rw [← z, upd_same] at nr; cases nr
      refine ⟨ne, ?_⟩
      rw [upd_ne ne, upd_same, lb, row0 a b]
    · rintro i c T1 σ H' hc ⟨y3, y4, y5, y6, y7, y8, rfl, sm, as, las, hrr, hrow⟩ nT
      refine ⟨T1, _, rfl, .inl (.inl upd_same), rfl, _, _, rfl, _, _, rfl, rfl, ?_⟩
      have hia : i < a.length := by have := (List.getElem?_eq_some_iff.mp (show a[i]? = some c by simpa using hc)).1; exact this
      have hca : a[i]? = some c := by simpa using hc
      -- row = [at]
      refine ⟨_, rfl, by show 1 ≤ sizeLine; decide, fun q1 nq => ?_⟩
      have s1 := same_upd (o := HO.tup [V.int (1 + (i : Nat)), V.str ⟨#[c]⟩]) nT
      have nq' : H' q1 = none := s1.free nq
      have nqr : r ≠ q1 := ne_of_none hrr nq'
      -- for other in range(1, len(two) + 1)
      refine ⟨.str (S b), rfl, S b, rfl, zb, _, _, rfl, rfl, _, _, rfl, ⟨by omega, by omega, by omega, by rw [lb]; omega⟩, ?_⟩
      rw [lb, show (((b.length : Int) + 1 - 1).toNat) = b.length by omega]
      refine for_range (lo := 1) (n := b.length) (fun k σ H2 => ∃ y6 y7 y8, σ = [some (.str (S a)), some (.str (S b)), some (.ref r), some (.int (1 + (i : Nat))), some (.str ⟨#[c]⟩), some (.ref q1), y6, y7, y8] ∧ Same H' H2 ∧ H2 q1 = some (.lst (rowV a b (i + 1) (k + 1)))) ?_ ?_ ?_
      · refine ⟨_, _, _, rfl, s1.trans (same_upd nq), ?_⟩
        rw [upd_same]
        unfold rowV
        rw [List.range_one, List.map_singleton, Dd_0' a b (by omega), show (1 + (i : Nat) : Int) = ((i + 1 : Nat) : Int) by omega]
      · rintro k σ H2 hk ⟨y6, y7, y8, rfl, s2, hq1⟩
        have hdb : b[k]? = some b[k] := List.getElem?_eq_getElem hk
        have hR : SqL K H2 r (as.map V.ref) := .inl (.inl (s2 _ _ hrr))
        have hQ : SqL K H2 q1 (rowV a b (i + 1) (k + 1)) := .inl (.inl hq1)
        obtain ⟨p, hp⟩ : ∃ p, as[i]? = some p := ⟨as[i], List.getElem?_eq_getElem (by omega)⟩
        have hpR : SqL K H2 p (rowV a b i (b.length + 1)) := .inl (.inl (s2 _ _ (hrow i p hp).2))
        have ap : atI (as.map V.ref) (-1) = some (.ref p) := atI_neg (by omega) (by rw [List.length_map]; omega) (by rw [List.length_map, las, show ((-1 + ((i + 1 : Nat) : Int)).toNat) = i by omega, List.getElem?_map, hp]; rfl)
        have ab : atI (S b).cps.toList ((1 + (k : Nat) : Int) - 1) = some b[k] := atI_ofNat (by omega) (by rw [show ((1 + (k : Int)) - 1).toNat = k by omega]; exact hdb)
        -- cost
        refine ⟨_, rfl, .str (S b), rfl, .int (1 + (k : Nat)), rfl, _, _, rfl, rfl, S b, _, _, rfl, rfl, zb, ab, rfl, _, rfl, ite_c ?_⟩
        rw [if_int]
        have ec : (if decide (V.str ⟨#[c]⟩ = V.str ⟨#[b[k]]⟩) = true then (0 : Int) else 1) = ((if c = b[k] then 0 else 1 : Nat) : Int) := by
          by_cases z : c = b[k]
          · subst z; simp
          · have z' : ¬ V.str ⟨#[c]⟩ = V.str ⟨#[b[k]]⟩ := fun q => z (by injection q with q; injection q with q; have := congrArg Array.toList q; simpa using this)
            rw [if_neg z, decide_eq_false z']
            rfl
        rw [ec]
        -- told = min(..)
        have g1 : atI (rowV a b i (b.length + 1)) (1 + (k : Nat)) = some (.int (Dd a b i (k + 1) : Nat)) := atI_ofNat (by omega) (by rw [show (1 + (k : Int)).toNat = k + 1 by omega]; exact rowV_get a b i (by omega))
        have g2 : atI (rowV a b (i + 1) (k + 1)) (-1) = some (.int (Dd a b (i + 1) k : Nat)) := row_last a b (i + 1) k
        have g3 : atI (rowV a b i (b.length + 1)) (1 + (k : Nat) - 1) = some (.int (Dd a b i k : Nat)) := atI_ofNat (by omega) (by rw [show (1 + (k : Int) - 1).toNat = k by omega]; exact rowV_get a b i (by omega))
        refine ⟨_, rfl, _, rfl, r, _, _, _, rfl, rfl, hR, ap, _, rfl, p, _, _, _, rfl, rfl, hpR, g1, _, _, rfl, rfl, ?_⟩
        refine ⟨_, rfl, _, rfl, q1, _, _, _, rfl, rfl, hQ, g2, _, _, rfl, rfl, ?_⟩
        refine ⟨_, rfl, _, rfl, r, _, _, _, rfl, rfl, hR, ap, _, rfl, _, _, rfl, rfl, p, _, _, _, rfl, rfl, hpR, g3, _, rfl, _, _, rfl, rfl, ?_⟩
        refine ⟨_, _, _, rfl, ?_⟩
        -- if at > 1 and ..
        refine ⟨fun σ' H3 => H3 = H2 ∧ ∃ y6 y7, σ' = [some (.str (S a)), some (.str (S b)), some (.ref r), some (.int (1 + (i : Nat))), some (.str ⟨#[c]⟩), some (.ref q1), y6, y7, some (.int (Dd a b (i + 1) (k + 1) : Nat))], ?_, ?_⟩
        · have eb : ((Lv.base c b[k] (a.take i).reverse (b.take k).reverse : Nat) : Int) = min (min (((Dd a b i (k + 1) : Nat) : Int) + 1) ((Dd a b (i + 1) k : Nat) + 1)) ((Dd a b i k : Nat) + ((if c = b[k] then 0 else 1 : Nat) : Int)) := Dd_base hca hdb
          have hno : ¬ ((0 < i ∧ 0 < k) ∧ b[k - 1]? = some c ∧ a[i - 1]? = some b[k]) → min (min (((Dd a b i (k + 1) : Nat) : Int) + 1) ((Dd a b (i + 1) k : Nat) + 1)) ((Dd a b i k : Nat) + ((if c = b[k] then 0 else 1 : Nat) : Int)) = (Dd a b (i + 1) (k + 1) : Nat) := fun z => by
            rw [← eb, Dd_s a b hca hdb, if_neg z]
          have fin : ¬ ((0 < i ∧ 0 < k) ∧ b[k - 1]? = some c ∧ a[i - 1]? = some b[k]) → ∃ y6 y7, [some (V.str (S a)), some (.str (S b)), some (.ref r), some (.int (1 + (i : Nat))), some (.str ⟨#[c]⟩), some (.ref q1), some (.int (1 + (k : Nat))), some (.int ((if c = b[k] then 0 else 1 : Nat) : Int)), some (V.int (min (min (((Dd a b i (k + 1) : Nat) : Int) + 1) ((Dd a b (i + 1) k : Nat) + 1)) ((Dd a b i k : Nat) + ((if c = b[k] then 0 else 1 : Nat) : Int))))] = [some (V.str (S a)), some (.str (S b)), some (.ref r), some (.int (1 + (i : Nat))), some (.str ⟨#[c]⟩), some (.ref q1), y6, y7, some (.int (Dd a b (i + 1) (k + 1) : Nat))] := fun z => ⟨_, _, by rw [hno z]⟩
          refine ⟨_, rfl, _, _, rfl, rfl, _, rfl, ite2 (fun e1 => ?_) (fun e1 => iteF ⟨rfl, fin fun z => e1 (decide_eq_true (by omega))⟩)⟩
          refine ⟨_, rfl, _, _, rfl, rfl, _, rfl, ite2 (fun e2 => ?_) (fun e2 => iteF ⟨rfl, fin fun z => e2 (decide_eq_true (by omega))⟩)⟩
          have e1' : (1 : Int) < 1 + (i : Nat) := of_decide_eq_true e1
          have e2' : (1 : Int) < 1 + (k : Nat) := of_decide_eq_true e2
          have hb1 : b[k - 1]? = some b[k - 1] := List.getElem?_eq_getElem (by omega)
          have ha1 : a[i - 1]? = some a[i - 1] := List.getElem?_eq_getElem (by omega)
          have ab2 : atI (S b).cps.toList ((1 + (k : Nat) : Int) - 2) = some b[k - 1] := atI_ofNat (by omega) (by rw [show ((1 + (k : Int)) - 2).toNat = k - 1 by omega]; exact hb1)
          have aa2 : atI (S a).cps.toList ((1 + (i : Nat) : Int) - 2) = some a[i - 1] := atI_ofNat (by omega) (by rw [show ((1 + (i : Int)) - 2).toNat = i - 1 by omega]; exact ha1)
          refine ⟨_, rfl, _, rfl, _, rfl, _, _, rfl, rfl, S b, _, _, rfl, rfl, zb, ab2, rfl, _, rfl, ite2 (fun e3 => ?_) (fun e3 => iteF ⟨rfl, fin fun z => e3 (decide_eq_true (by rw [hb1] at z; rw [Option.some.inj z.2.1]))⟩)⟩
          refine ⟨_, rfl, _, rfl, _, _, rfl, rfl, S a, _, _, rfl, rfl, szL (by rw [S_len]; omega), aa2, _, rfl, _, rfl, _, _, rfl, rfl, S b, _, _, rfl, rfl, zb, ab, rfl, _, rfl, ite2 (fun e4 => ?_) (fun e4 => ⟨rfl, fin fun z => e4 (decide_eq_true (by rw [ha1] at z; rw [Option.some.inj z.2.2]))⟩)⟩
          have e3' : c = b[k - 1] := sign_inj (of_decide_eq_true e3)
          have e4' : a[i - 1] = b[k] := sign_inj (of_decide_eq_true e4)
          obtain ⟨p2, hp2⟩ : ∃ p, as[i - 1]? = some p := ⟨as[i - 1], List.getElem?_eq_getElem (by omega)⟩
          have hpR2 : SqL K H2 p2 (rowV a b (i - 1) (b.length + 1)) := .inl (.inl (s2 _ _ (hrow (i - 1) p2 hp2).2))
          have ap2 : atI (as.map V.ref) (-2) = some (.ref p2) := atI_neg (by omega) (by rw [List.length_map]; omega) (by rw [List.length_map, las, show ((-2 + ((i + 1 : Nat) : Int)).toNat) = i - 1 by omega, List.getElem?_map, hp2]; rfl)
          have g4 : atI (rowV a b (i - 1) (b.length + 1)) (1 + (k : Nat) - 2) = some (.int (Dd a b (i - 1) (k - 1) : Nat)) := atI_ofNat (by omega) (by rw [show (1 + (k : Int) - 2).toNat = k - 1 by omega]; exact rowV_get a b (i - 1) (by omega))
          have ey : min (min (min (((Dd a b i (k + 1) : Nat) : Int) + 1) ((Dd a b (i + 1) k : Nat) + 1)) ((Dd a b i k : Nat) + ((if c = b[k] then 0 else 1 : Nat) : Int))) ((Dd a b (i - 1) (k - 1) : Nat) + 1) = (Dd a b (i + 1) (k + 1) : Nat) := by
            rw [← eb, Dd_s a b hca hdb, if_pos ⟨by omega, by rw [hb1, e3'], by rw [ha1, e4']⟩]
            omega
          refine ⟨_, rfl, _, rfl, _, rfl, r, _, _, _, rfl, rfl, hR, ap2, _, rfl, _, _, rfl, rfl, p2, _, _, _, rfl, rfl, hpR2, g4, _, _, rfl, rfl, _, _, rfl, rfl, some (.int (1 + (k : Nat))), some (.int ((if c = b[k] then 0 else 1 : Nat) : Int)), ?_⟩
          rw [← ey]
          rfl
        · rintro σ' H3 ⟨rfl, z6, z7, rfl⟩
          -- row.append(told)
          refine ⟨_, rfl, .inl ⟨rfl, _, hQ⟩, _, rfl, q1, _, _, rfl, rfl, hq1, szl (by rw [rowV_len]; omega), ?_⟩
          refine ⟨_, _, _, rfl, same_mut s2 nq', ?_⟩
          rw [upd_same, rowV_snoc rfl]
      · -- rows.append(row)
        rintro σ' H2 ⟨y6, y7, y8, rfl, s2, hq1⟩
        have hR : SqL K H2 r (as.map V.ref) := .inl (.inl (s2 _ _ hrr))
        refine ⟨_, rfl, .inl ⟨rfl, _, hR⟩, _, rfl, r, _, _, rfl, rfl, s2 _ _ hrr, szl (by rw [List.length_map]; omega), ?_⟩
        refine ⟨_, _, _, _, _, _, rfl, same_mut (sm.trans s2) hr0, as ++ [q1], by simp [las], by rw [upd_same, List.map_append]; rfl, fun j p hp => ?_⟩
        by_cases hj : j < as.length
        · rw [List.getElem?_append_left hj] at hp
          obtain ⟨n, e⟩ := hrow j p hp
          exact ⟨n, by rw [upd_ne n]; exact s2 _ _ e⟩
        · have hj' : j = i + 1 := by
            have := (List.getElem?_eq_some_iff.mp hp).1
            simp at this
            omega
          subst hj'
          rw [List.getElem?_append_right (by omega), las, Nat.sub_self] at hp
          cases hp
          exact ⟨fun z => nqr z.symm, by rw [upd_ne (fun z => nqr z.symm)]; exact hq1⟩
    · -- return rows[-1][-1]
      rintro σ' H2 ⟨y3, y4, y5, y6, y7, y8, rfl, sm, as, las, hrr, hrow⟩
      have la : (S a).cps.size = a.length := S_len a
      rw [la] at las
      obtain ⟨p, hp⟩ : ∃ p, as[a.length]? = some p := ⟨as[a.length], List.getElem?_eq_getElem (by omega)⟩
      have ap : atI (as.map V.ref) (-1) = some (.ref p) := atI_neg (by omega) (by rw [List.length_map]; omega) (by rw [List.length_map, las, show ((-1 + ((a.length + 1 : Nat) : Int)).toNat) = a.length by omega, List.getElem?_map, hp]; rfl)
      refine ⟨_, rfl, _, rfl, r, _, _, _, rfl, rfl, .inl (.inl hrr), ap, _, rfl, p, _, _, _, rfl, rfl, .inl (.inl (hrow _ p hp).2), row_last a b a.length b.length, ?_⟩
      have e : Dd a b a.length b.length = lev a.reverse b.reverse := by unfold Dd; rw [List.take_length, List.take_length]
      rw [e]
      exact q H2 sm
/-! ### _law_steps -/
theorem nodup_lt : ∀ (N : Nat) (l : List Nat), l.Nodup → (∀ x ∈ l, x < N) → l.length ≤ N
  | 0, l, _, h => by
    cases l with
    | nil => exact Nat.le_refl _
    | cons x r => exact absurd (h x (by simp)) (Nat.not_lt_zero _)
  | N + 1, l, nd, h => by
    by_cases hN : N ∈ l
    · have e := List.length_erase_of_mem hN
      have q := nodup_lt N (l.erase N) (nd.erase N) fun x hx => by
        have a := (List.Nodup.mem_erase_iff nd).mp hx
        have b := h x a.2
        omega
      have z : 0 < l.length := List.length_pos_of_mem hN
      omega
    · have q := nodup_lt N l nd fun x hx => by
        have b := h x hx
        have c : x ≠ N := fun z => hN (z ▸ hx)
        omega
      omega
def keyAB (A B : List Nat) (i j : Nat) : List Key := [.inr (S (A.take i)), .inr (S (B.take j))]
def levAB (A B : List Nat) (i j : Nat) : Int := (lev (A.take i).reverse (B.take j).reverse : Nat)
/-- what is known of the beginnings of two words -/
structure Memo (A B : List Nat) (kvs : List (List Key × V)) : Prop where
  val : ∀ k v, valV kvs k = some v → ∃ i j, i ≤ A.length ∧ j ≤ B.length ∧ k = keyAB A B i j ∧ v = .int (levAB A B i j)
  nd : (kvs.map (·.1)).Nodup
theorem Memo.nil (A B : List Nat) : Memo A B [] := ⟨fun k v h => (by rw [valV_nil] at h; cases h), List.nodup_nil⟩
theorem keyAB_inj {A B : List Nat} {i j i' j' : Nat} (hi : i ≤ A.length) (hj : j ≤ B.length) (hi' : i' ≤ A.length) (hj' : j' ≤ B.length) (h : keyAB A B i j = keyAB A B i' j') : i = i' ∧ j = j' := by
  unfold keyAB at h
  injection h with h1 h2
  injection h2 with h2 _
  injection h1 with h1
  injection h2 with h2
  have e1 := congrArg List.length (S_inj.mp h1)
  have e2 := congrArg List.length (S_inj.mp h2)
  rw [List.length_take, List.length_take] at e1 e2
  omega
theorem mem_val : ∀ {kvs : List (List Key × V)} {k : List Key}, k ∈ kvs.map (·.1) → ∃ v, valV kvs k = some v
  | [], k, h => by simp at h
  | p :: r, k, h => by
    by_cases e : p.1 = k
    · exact ⟨_, valV_pos e⟩
    · have h' : k ∈ r.map (·.1) := by
        rcases List.mem_cons.mp h with z | z
        · exact absurd z.symm e
        · exact z
      obtain ⟨v, hv⟩ := mem_val h'
      exact ⟨v, by rw [valV_neg e]; exact hv⟩
theorem Memo.len {A B : List Nat} {kvs : List (List Key × V)} (m : Memo A B kvs) : kvs.length ≤ (A.length + 1) * (B.length + 1) := by
  have look : ∀ k ∈ kvs.map (·.1), ∃ i j, i ≤ A.length ∧ j ≤ B.length ∧ k = keyAB A B i j := fun k hk => by
    obtain ⟨v, hv⟩ := mem_val hk
    obtain ⟨i, j, a, b, c, _⟩ := m.val k v hv
    exact ⟨i, j, a, b, c⟩
  have g : ∀ l : List (List Key), l.Nodup → (∀ k ∈ l, ∃ i j, i ≤ A.length ∧ j ≤ B.length ∧ k = keyAB A B i j) → ∃ ns : List Nat, ns.length = l.length ∧ ns.Nodup ∧ (∀ n ∈ ns, n < (A.length + 1) * (B.length + 1)) ∧ ∀ n ∈ ns, ∃ i j, i ≤ A.length ∧ j ≤ B.length ∧ n = i * (B.length + 1) + j ∧ keyAB A B i j ∈ l := by
    intro l
    induction l with
    | nil => intro _ _; exact ⟨[], rfl, List.nodup_nil, by simp, by simp⟩
    | cons k r ih =>
      intro nd hl
      obtain ⟨nk, nr⟩ := List.nodup_cons.mp nd
      obtain ⟨ns, e1, e2, e3, e4⟩ := ih nr fun k hk => hl k (List.mem_cons_of_mem _ hk)
      obtain ⟨i, j, hi, hj, rfl⟩ := hl k (by simp)
      have bd : i * (B.length + 1) + j < (A.length + 1) * (B.length + 1) := by
        have := Nat.mul_le_mul_right (B.length + 1) (show i + 1 ≤ A.length + 1 by omega)
        rw [Nat.add_mul i 1, Nat.one_mul] at this
        omega
      refine ⟨(i * (B.length + 1) + j) :: ns, by rw [List.length_cons, e1, List.length_cons], List.nodup_cons.mpr ⟨fun hm => ?_, e2⟩, fun n hn => ?_, fun n hn => ?_⟩
      · obtain ⟨i', j', hi', hj', e, hm'⟩ := e4 _ hm
        have ej : j = j' := by
          have a := congrArg (· % (B.length + 1)) e
          simp only [Nat.mul_add_mod_self_right] at a
          rw [Nat.mod_eq_of_lt (by omega), Nat.mod_eq_of_lt (by omega)] at a
          exact a
        subst ej
        have ei : i = i' := Nat.eq_of_mul_eq_mul_right (show 0 < B.length + 1 by omega) (by omega)
        subst ei
        exact nk hm'
      · rcases List.mem_cons.mp hn with z | z
        · rw [z]; exact bd
        · exact e3 n z
      · rcases List.mem_cons.mp hn with z | z
        · exact ⟨i, j, hi, hj, z, by simp⟩
        · obtain ⟨i', j', a, b, c, d⟩ := e4 n z
          exact ⟨i', j', a, b, c, List.mem_cons_of_mem _ d⟩
  obtain ⟨ns, e1, e2, e3, _⟩ := g _ m.nd look
  rw [List.length_map] at e1
  rw [← e1]
  exact nodup_lt _ ns e2 e3
theorem Memo.put {A B : List Nat} {kvs : List (List Key × V)} {i j : Nat} (m : Memo A B kvs) (hi : i ≤ A.length) (hj : j ≤ B.length) : Memo A B (putK kvs (keyAB A B i j) (.int (levAB A B i j))) := by
  refine ⟨fun k v h => ?_, ?_⟩
  · rw [valV_put] at h
    by_cases e : k = keyAB A B i j
    · rw [if_pos e] at h
      exact ⟨i, j, hi, hj, e, (Option.some.inj h).symm⟩
    · rw [if_neg e] at h
      exact m.val k v h
  · cases e : valV kvs (keyAB A B i j) with
    | none => exact nd_putK _ m.nd e
    | some v =>
      unfold putK
      rw [if_pos (by rw [valV_any, e]; rfl), List.map_map]
      have : (fun kv : List Key × V => (if kv.1 = keyAB A B i j then (kv.1, V.int (levAB A B i j)) else kv).1) = (·.1) := by
        funext kv
        by_cases z : kv.1 = keyAB A B i j
        · rw [if_pos z]
        · rw [if_neg z]
      show (kvs.map (fun kv : List Key × V => (if kv.1 = keyAB A B i j then (kv.1, V.int (levAB A B i j)) else kv).1)).Nodup
      rw [this]
      exact m.nd
theorem cut_init (l : List Nat) (x : Nat) : cutS (S (l ++ [x])) none (some (-1)) = S l := by
  rw [S_cut, HT.sIx_none]
  show S (((l ++ [x]).drop 0).take (((-1 : Int) + ((l ++ [x]).length : Int)).toNat - 0)) = S l
  rw [List.drop_zero, Nat.sub_zero, show ((-1 : Int) + ((l ++ [x]).length : Int)).toNat = l.length by rw [List.length_append]; simp; omega, List.take_left']
  rfl
theorem cut_two (l : List Nat) (x y : Nat) : cutS (S (l ++ [x, y])) (some (-2)) none = S [x, y] := by
  rw [S_cut, HT.sIx_none]
  show S (((l ++ [x, y]).drop ((-2 : Int) + ((l ++ [x, y]).length : Int)).toNat).take _) = S [x, y]
  rw [show ((-2 : Int) + ((l ++ [x, y]).length : Int)).toNat = l.length by rw [List.length_append]; simp; omega, List.drop_left', List.take_of_length_le]
  · show 2 ≤ (l ++ [x, y]).length - HT.sIx (l ++ [x, y]).length 0 (some (-2))
    show 2 ≤ (l ++ [x, y]).length - ((-2 : Int) + ((l ++ [x, y]).length : Int)).toNat
    rw [List.length_append]
    simp
    omega
  · rfl
theorem cut_init2 (l : List Nat) (x y : Nat) : cutS (S (l ++ [x, y])) none (some (-2)) = S l := by
  rw [S_cut, HT.sIx_none]
  show S (((l ++ [x, y]).drop 0).take (((-2 : Int) + ((l ++ [x, y]).length : Int)).toNat - 0)) = S l
  rw [List.drop_zero, Nat.sub_zero, show ((-2 : Int) + ((l ++ [x, y]).length : Int)).toNat = l.length by rw [List.length_append]; simp; omega, List.take_left']
  rfl
def spSteps (A B : List Nat) (n : Nat) : Sp := fun vs H Q _ => ∃ (i j : Nat) (d : Addr) (kvs : List (List Key × V)), vs = [.str (S (A.take i)), .str (S (B.take j)), .ref d] ∧ i ≤ A.length ∧ j ≤ B.length ∧ i + j + 1 ≤ n ∧ H d = some (.dT kvs) ∧ Memo A B kvs ∧
  ∀ H' kvs', Kp d H H' → H' d = some (.dT kvs') → Memo A B kvs' → Q (.int (levAB A B i j)) H'
abbrev s__law_steps : Stmt := topS 6
theorem sc__law_steps : FnScope ["one", "two", "known", "found"] ["one", "two", "known"] (defScope s__law_steps) := ⟨rfl, rfl, rfl, by decide +kernel, rfl, by decide +kernel, by decide +kernel⟩
theorem ok_steps {A B : List Nat} (hA : A.length ≤ 100) (hB : B.length ≤ 100) {n : Nat} {f : Addr} {fd : FuncData} (F : Fun K "_law_steps" "_law_steps" s__law_steps f fd) (T : Tx mg) (C__law_steps : C8.Cal P w K mg base n "_law_steps" (spSteps A B n) []) : FnOk P w K mg base CX0 (n + 1) f fd ["one", "two", "known"] (spSteps A B (n + 1)) := by
  refine F.ok sc__law_steps (fun vs H Q E h => ?_) (fun cdv Ar outer s H vs Q E hr h => ?_)
  · obtain ⟨i, j, d, kvs, rfl, _⟩ := h
    rfl
  · obtain ⟨i, j, d, kvs, rfl, hi, hj, hij, hd, hm, q⟩ := h
    refine ⟨_, (pss_cons (ps_if (pt_cmp (pc_din (hu_of hr) (pe_tup (pa_cons (pv 0) (pa_cons (pv 1) pa_nil))) (pv 2)))
      (pss_one (ps_ret (pe_dget (hu_of hr) (pv 2) (pe_tup (pa_cons (pv 0) (pa_cons (pv 1) pa_nil))) (fun _ _ => rfl))))
      pss_nil)
    (C8.pss_cut (ps_if (PW.pt (pw_or (pt_cmpR op_eq (pv 0) pe_str (nomark _)) (pw_or1 (pt_cmpR op_eq (pv 1) pe_str (nomark _)))))
      (pss_one (ps_set (i := 3) sc__law_steps.nd rfl (.inl rfl) (pe_callB (call_max2' rfl) rfl T.n_max (by decide +kernel) (pa_cons (pe_callB call_len_str rfl T.n_len (by decide +kernel) (pa_cons (pv 0) pa_nil)) (pa_cons (pe_callB call_len_str rfl T.n_len (by decide +kernel) (pa_cons (pv 1) pa_nil)) pa_nil)))))
      (pss_cons (ps_set (i := 3) sc__law_steps.nd rfl (.inl rfl) (pe_op op_add (C8.pe_c C__law_steps hr (by omega) rfl (pa_cons (pe_slice sl_str (pv 0) po_none (po_some (pe_un un_neg pe_int))) (pa_cons (pe_slice sl_str (pv 1) po_none (po_some (pe_un un_neg pe_int))) (pa_cons (pv 2) pa_nil)))) (pe_callTy call_int1 rfl T.n_int (by decide +kernel) (pa_cons (pe_cmpR op_ne (pe_ix ix_str (pv 0) (pe_un un_neg pe_int) (fun _ _ => rfl)) (pe_ix ix_str (pv 1) (pe_un un_neg pe_int) (fun _ _ => rfl)) (nomark _)) pa_nil))))
      (pss_cons (ps_set (i := 3) sc__law_steps.nd rfl (.inl rfl) (pe_callB (call_min3 rfl) rfl T.n_min (by decide +kernel) (pa_cons (pv 3) (pa_cons (pe_op op_add (C8.pe_c C__law_steps hr (by omega) rfl (pa_cons (pe_slice sl_str (pv 0) po_none (po_some (pe_un un_neg pe_int))) (pa_cons (pv 1) (pa_cons (pv 2) pa_nil)))) pe_int) (pa_cons (pe_op op_add (C8.pe_c C__law_steps hr (by omega) rfl (pa_cons (pv 0) (pa_cons (pe_slice sl_str (pv 1) po_none (po_some (pe_un un_neg pe_int))) (pa_cons (pv 2) pa_nil)))) pe_int) pa_nil)))))
      (pss_one (ps_if (PW.pt (pw_and (pt_cmpR op_gt (pe_callB call_len_str rfl T.n_len (by decide +kernel) (pa_cons (pv 0) pa_nil)) pe_int (nomark _)) (pw_and (pt_cmpR op_gt (pe_callB call_len_str rfl T.n_len (by decide +kernel) (pa_cons (pv 1) pa_nil)) pe_int (nomark _)) (pw_and1 (pt_cmpR op_eq (pe_slice sl_str (pv 0) (po_some (pe_un un_neg pe_int)) po_none) (pe_op op_add_str (pe_ix ix_str (pv 1) (pe_un un_neg pe_int) (fun _ _ => rfl)) (pe_ix ix_str (pv 1) (pe_un un_neg pe_int) (fun _ _ => rfl))) (nomark _))))))
        (pss_one (ps_set (i := 3) sc__law_steps.nd rfl (.inl rfl) (pe_callB (call_min2' rfl) rfl T.n_min (by decide +kernel) (pa_cons (pv 3) (pa_cons (pe_op op_add (C8.pe_c C__law_steps hr (by omega) rfl (pa_cons (pe_slice sl_str (pv 0) po_none (po_some (pe_un un_neg pe_int))) (pa_cons (pe_slice sl_str (pv 1) po_none (po_some (pe_un un_neg pe_int))) (pa_cons (pv 2) pa_nil)))) pe_int) pa_nil)))))
        pss_nil)))))
    (pss_cons (ps_dput (hu_of hr) (pv 2) (pe_tup (pa_cons (pv 0) (pa_cons (pv 1) pa_nil))) (pv 3) rfl)
    (pss_one (ps_ret (pv 3)))))), ?_⟩
    have la : (A.take i).length = i := by rw [List.length_take]; omega
    have lb : (B.take j).length = j := by rw [List.length_take]; omega
    -- if (one, two) in known
    refine ⟨_, rfl, _, rfl, by show 2 ≤ sizeLine; decide, fun t nt => ⟨_, rfl, d, _, rfl, DGet.t (k := keyAB A B i j) (by rw [upd_ne (ne_of_none hd nt)]; exact hd) upd_same, _, rfl, ?_⟩⟩
    have s1 : Same H (upd H t (.tup [.str (S (A.take i)), .str (S (B.take j))])) := same_upd nt
    cases e : valV kvs (keyAB A B i j) with
    | some v =>
      refine iteT ⟨_, rfl, _, rfl, _, rfl, by show 2 ≤ sizeLine; decide, fun t2 nt2 => ⟨d, v, rfl, ?_, ?_⟩⟩
      · rw [← e]
        exact DGet.t (by rw [upd_ne (ne_of_none (s1 _ _ hd) nt2)]; exact s1 _ _ hd) upd_same
      · obtain ⟨i', j', hi', hj', ek, rfl⟩ := hm.val _ _ e
        obtain ⟨rfl, rfl⟩ := keyAB_inj hi hj hi' hj' ek
        have s2 := s1.trans (same_upd (o := HO.tup [.str (S (A.take i)), .str (S (B.take j))]) nt2)
        exact q _ kvs (Kp.of s2) (s2 _ _ hd) hm
    | none =>
      refine iteF ?_
      refine ⟨fun σ' H' => ∃ kvs', σ' = [some (.str (S (A.take i))), some (.str (S (B.take j))), some (.ref d), some (.int (levAB A B i j))] ∧ Kp d H H' ∧ H' d = some (.dT kvs') ∧ Memo A B kvs', ?_, ?_⟩
      · have fin : ∀ (k : Int), k = levAB A B i j → ∃ kvs', [some (V.str (S (A.take i))), some (.str (S (B.take j))), some (.ref d), some (.int k)] = [some (.str (S (A.take i))), some (.str (S (B.take j))), some (.ref d), some (.int (levAB A B i j))] ∧ Kp d H (upd H t (.tup [.str (S (A.take i)), .str (S (B.take j))])) ∧ (upd H t (.tup [.str (S (A.take i)), .str (S (B.take j))])) d = some (.dT kvs') ∧ Memo A B kvs' := fun k ek => by
          subst ek
          exact ⟨kvs, rfl, Kp.of s1, s1 _ _ hd, hm⟩
        have es : ∀ l : List Nat, (V.str (S l) = V.str (Str.ofString "")) ↔ l = [] := fun l => by
          constructor
          · intro h
            injection h with h
            exact S_inj.mp (h.trans (show Str.ofString "" = S [] by decide +kernel))
          · rintro rfl
            exact congrArg V.str (show S [] = Str.ofString "" by decide +kernel)
        have z1 : (S (A.take i)).length ≤ sizeLine := szL (by rw [S_len, la]; omega)
        have z2 : (S (B.take j)).length ≤ sizeLine := szL (by rw [S_len, lb]; omega)
        refine ⟨_, rfl, rfl, _, rfl, ite2 (fun e1 => iteT ?_) (fun e1 => ⟨_, rfl, rfl, _, rfl, ite2 (fun e2 => ?_) (fun e2 => ?_)⟩)⟩
        · refine ⟨_, rfl, _, rfl, z1, _, rfl, _, rfl, z2, _, _, rfl, fin _ ?_⟩
          have e1' : A.take i = [] := (es _).mp (of_decide_eq_true e1)
          unfold levAB
          rw [S_len, S_len, e1', List.reverse_nil, lev_nil, List.length_reverse]
          simp
        · refine ⟨_, rfl, _, rfl, z1, _, rfl, _, rfl, z2, _, _, rfl, fin _ ?_⟩
          have e2' : B.take j = [] := (es _).mp (of_decide_eq_true e2)
          unfold levAB
          rw [S_len, S_len, e2', List.reverse_nil, lev_nil', List.length_reverse]
          simp
        · have n1 : A.take i ≠ [] := fun z => e1 (decide_eq_true ((es _).mpr z))
          have n2 : B.take j ≠ [] := fun z => e2 (decide_eq_true ((es _).mpr z))
          obtain ⟨i, rfl⟩ : ∃ i0, i = i0 + 1 := by
            cases i with
            | zero => exact absurd List.take_zero n1
            | succ i => exact ⟨i, rfl⟩
          obtain ⟨j, rfl⟩ : ∃ j0, j = j0 + 1 := by
            cases j with
            | zero => exact absurd List.take_zero n2
            | succ j => exact ⟨j, rfl⟩
          have gx : A[i]? = some A[i] := List.getElem?_eq_getElem (by omega)
          have gy : B[j]? = some B[j] := List.getElem?_eq_getElem (by omega)
          have ax : A.take (i + 1) = A.take i ++ [A[i]] := by rw [List.take_add_one, gx]; rfl
          have ay : B.take (j + 1) = B.take j ++ [B[j]] := by rw [List.take_add_one, gy]; rfl
          have c1 : cutS (S (A.take (i + 1))) none (some (-1)) = S (A.take i) := by rw [ax, cut_init]
          have c2 : cutS (S (B.take (j + 1))) none (some (-1)) = S (B.take j) := by rw [ay, cut_init]
          have a1 : atI (S (A.take (i + 1))).cps.toList (-1) = some A[i] := by rw [S_cps, ax]; exact atI_last _ _
          have a2 : atI (S (B.take (j + 1))).cps.toList (-1) = some B[j] := by rw [S_cps, ay]; exact atI_last _ _
          have hd1 : (upd H t (.tup [.str (S (A.take (i + 1))), .str (S (B.take (j + 1)))])) d = some (.dT kvs) := s1 _ _ hd
          -- found = steps(one[:-1], two[:-1]) + int(one[-1] != two[-1])
          refine ⟨_, rfl, 1, rfl, _, rfl, _, rfl, z1, _, rfl, 1, rfl, _, rfl, _, rfl, z2, _, rfl, i, j, d, kvs, by rw [c1, c2]; rfl, by omega, by omega, by omega, hd1, hm, fun H1 kvs1 k1 hd2 m1 => ?_⟩
          refine ⟨_, rfl, 1, rfl, _, _, _, rfl, rfl, z1, a1, _, rfl, 1, rfl, _, _, _, rfl, rfl, z2, a2, rfl, .inr ⟨_, rfl, ?_⟩⟩
          have ec : (if (!decide (V.str ⟨#[A[i]]⟩ = V.str ⟨#[B[j]]⟩)) = true then (1 : Int) else 0) = ((if A[i] = B[j] then 0 else 1 : Nat) : Int) := by
            by_cases z : A[i] = B[j]
            · rw [z]; simp
            · have z' : ¬ V.str ⟨#[A[i]]⟩ = V.str ⟨#[B[j]]⟩ := fun q => z (sign_inj q)
              rw [if_neg z, decide_eq_false z']
              rfl
          rw [ec]
          refine ⟨_, _, rfl, rfl, ?_⟩
          -- found = min(found, .., ..)
          refine ⟨_, rfl, _, rfl, 1, rfl, _, rfl, _, rfl, z1, _, rfl, _, rfl, i, j + 1, d, kvs1, by rw [c1]; rfl, by omega, by omega, by omega, hd2, m1, fun H2 kvs2 k2 hd3 m2 => ⟨_, _, rfl, rfl, ?_⟩⟩
          refine ⟨_, rfl, _, rfl, 1, rfl, _, rfl, _, rfl, z2, _, rfl, i + 1, j, d, kvs2, by rw [c2]; rfl, by omega, by omega, by omega, hd3, m2, fun H3 kvs3 k3 hd4 m3 => ⟨_, _, rfl, rfl, _, _, _, rfl, ?_⟩⟩
          have kk : Kp d H H3 := (Kp.of s1).trans (k1.trans (k2.trans k3))
          have eb : ((Lv.base A[i] B[j] (A.take i).reverse (B.take j).reverse : Nat) : Int) = min (min (levAB A B i j + ((if A[i] = B[j] then 0 else 1 : Nat) : Int)) (levAB A B i (j + 1) + 1)) (levAB A B (i + 1) j + 1) := by
            have := Dd_base gx gy
            rw [this]
            unfold levAB Dd
            omega
          have hno : ¬ ((0 < i ∧ 0 < j) ∧ B[j - 1]? = some A[i] ∧ A[i - 1]? = some B[j]) → min (min (levAB A B i j + ((if A[i] = B[j] then 0 else 1 : Nat) : Int)) (levAB A B i (j + 1) + 1)) (levAB A B (i + 1) j + 1) = levAB A B (i + 1) (j + 1) := fun z => by
            rw [← eb]
            show _ = ((Dd A B (i + 1) (j + 1) : Nat) : Int)
            rw [Dd_s A B gx gy, if_neg z]
          have fin2 : ∀ (k : Int), k = levAB A B (i + 1) (j + 1) → ∃ kvs', [some (V.str (S (A.take (i + 1)))), some (.str (S (B.take (j + 1)))), some (.ref d), some (.int k)] = [some (.str (S (A.take (i + 1)))), some (.str (S (B.take (j + 1)))), some (.ref d), some (.int (levAB A B (i + 1) (j + 1)))] ∧ Kp d H H3 ∧ H3 d = some (.dT kvs') ∧ Memo A B kvs' := fun k ek => by
            subst ek
            exact ⟨kvs3, rfl, kk, hd4, m3⟩
          refine ⟨_, rfl, _, rfl, z1, _, _, rfl, rfl, _, rfl, ite2 (fun e3 => ?_) (fun e3 => iteF (fin2 _ (hno fun z => e3 (decide_eq_true (by rw [S_len, la]; omega)))))⟩
          refine ⟨_, rfl, _, rfl, z2, _, _, rfl, rfl, _, rfl, ite2 (fun e4 => ?_) (fun e4 => iteF (fin2 _ (hno fun z => e4 (decide_eq_true (by rw [S_len, lb]; omega)))))⟩
          have e3' : 0 < i := by have := of_decide_eq_true e3; rw [S_len, la] at this; omega
          have e4' : 0 < j := by have := of_decide_eq_true e4; rw [S_len, lb] at this; omega
          obtain ⟨i, rfl⟩ : ∃ i0, i = i0 + 1 := ⟨i - 1, by omega⟩
          obtain ⟨j, rfl⟩ : ∃ j0, j = j0 + 1 := ⟨j - 1, by omega⟩
          have gx2 : A[i]? = some A[i] := List.getElem?_eq_getElem (by omega)
          have gy2 : B[j]? = some B[j] := List.getElem?_eq_getElem (by omega)
          have ax2 : A.take (i + 1 + 1) = A.take i ++ [A[i], A[i + 1]] := by rw [ax, List.take_add_one, gx2, List.append_assoc]; rfl
          have ay2 : B.take (j + 1 + 1) = (B.take j ++ [B[j]]) ++ [B[j + 1]] := by rw [ay, List.take_add_one, gy2]; rfl
          have c3 : cutS (S (A.take (i + 1 + 1))) (some (-2)) none = S [A[i], A[i + 1]] := by rw [ax2, cut_two]
          have a3 : atI (S (B.take (j + 1 + 1))).cps.toList (-2) = some B[j] := by
            rw [S_cps, ay2]
            refine atI_neg (by omega) (by rw [List.length_append, List.length_append]; simp; omega) ?_
            rw [show ((-2 : Int) + ((B.take j ++ [B[j]] ++ [B[j + 1]]).length : Int)).toNat = j by rw [List.length_append, List.length_append, List.length_take]; simp; omega]
            rw [List.getElem?_append_left (by rw [List.length_append, List.length_take]; simp; omega), List.getElem?_append_right (by rw [List.length_take]; omega), List.length_take, show j - min j B.length = 0 by omega]
            rfl
          have ay3 : B.take (j + 1 + 1) = B.take j ++ [B[j], B[j + 1]] := by rw [ay2, List.append_assoc]; rfl
          have c4 : cutS (S (A.take (i + 1 + 1))) none (some (-2)) = S (A.take i) := by rw [ax2, cut_init2]
          have c5 : cutS (S (B.take (j + 1 + 1))) none (some (-2)) = S (B.take j) := by rw [ay3, cut_init2]
          refine ⟨_, rfl, 2, rfl, _, rfl, _, rfl, z1, _, rfl, 1, rfl, _, _, _, rfl, rfl, z2, a2, _, rfl, 2, rfl, _, _, _, rfl, rfl, z2, a3, _, _, rfl, rfl, by show 1 + 1 ≤ sizeLine; decide, rfl, _, rfl, ite2 (fun e5 => ?_) (fun e5 => fin2 _ (hno fun z => e5 (decide_eq_true ?_)))⟩
          · have e6 : S [A[i], A[i + 1]] = S [B[j + 1], B[j]] := by
              have z := of_decide_eq_true e5
              injection z with z
              rw [c3] at z
              exact z
            have e7 := S_inj.mp e6
            injection e7 with e8 e9
            injection e9 with e9 _
            refine ⟨_, rfl, _, rfl, 2, rfl, _, rfl, _, rfl, z1, _, rfl, 2, rfl, _, rfl, _, rfl, z2, _, rfl, i, j, d, kvs3, ?_, by omega, by omega, by omega, hd4, m3, fun H4 kvs4 k4 hd5 m4 => ⟨_, _, rfl, rfl, _, _, rfl, kvs4, ?_, kk.trans k4, hd5, m4⟩⟩
            · rw [c4, c5]; rfl
            · have ey : min (min (min (levAB A B (i + 1) (j + 1) + ((if A[i + 1] = B[j + 1] then 0 else 1 : Nat) : Int)) (levAB A B (i + 1) (j + 1 + 1) + 1)) (levAB A B (i + 1 + 1) (j + 1) + 1)) (levAB A B i j + 1) = levAB A B (i + 1 + 1) (j + 1 + 1) := by
                rw [← eb]
                show _ = ((Dd A B (i + 1 + 1) (j + 1 + 1) : Nat) : Int)
                rw [Dd_s A B gx gy, if_pos ⟨⟨e3', e4'⟩, by rw [Nat.add_sub_cancel, gy2, e9], by rw [Nat.add_sub_cancel, gx2, e8]⟩]
                unfold levAB Dd
                rw [Nat.add_sub_cancel, Nat.add_sub_cancel]
                omega
              rw [← ey]
              rfl
          · rw [Nat.add_sub_cancel, Nat.add_sub_cancel, gx2, gy2] at z
            have z1 := Option.some.inj z.2.1
            have z2 := Option.some.inj z.2.2
            rw [c3, z2, ← z1]
            rfl
      · -- known[(one, two)] = found; return found
        rintro σ' H' ⟨kvs', rfl, kk, hd', hm'⟩
        refine ⟨_, rfl, _, rfl, _, rfl, _, rfl, by show 2 ≤ sizeLine; decide, fun t2 nt2 => ⟨d, _, rfl, DPut.t (k := keyAB A B i j) (by rw [upd_ne (ne_of_none hd' nt2)]; exact hd') upd_same (szl (by have := hm'.len; have := Nat.mul_le_mul (show A.length + 1 ≤ 101 by omega) (show B.length + 1 ≤ 101 by omega); omega)), ?_⟩⟩
        exact ⟨_, rfl, q _ _ (kk.trans ((Kp.of (same_upd nt2)).trans Kp.upd)) upd_same (hm'.put hi hj)⟩
/-! ### the deck -/
/-- a list of numbers, none below nought -/
def Deck (H : Hp) (p : Addr) : Prop := ∃ ds : List Int, H p = some (.lst (ds.map V.int)) ∧ (∀ d ∈ ds, 0 ≤ d) ∧ ds.length ≤ 20000
def spDeck (K : PySem.W.Frag) : Sp := fun vs H Q _ => ∃ (a : Addr) (ns : List Int) (c e : Nat), vs = [.ref a, .int (c : Nat), .int (e : Nat)] ∧ SqL K H a (ns.map V.int) ∧ ns.length ≤ 63 ∧ c ≤ 1000 ∧ e ≤ 1000 ∧ c * e ≤ 20000 ∧
  ∀ H' p, Same H H' → H p = none → Deck H' p → Q (.ref p) H'
abbrev s__law_deck : Stmt := topS 3
theorem sc__law_deck : FnScope ["script", "cells", "each", "deck", "seed", "k", "cell", "rest", "at"] ["script", "cells", "each"] (defScope s__law_deck) := ⟨rfl, rfl, rfl, by decide +kernel, rfl, by decide +kernel, by decide +kernel⟩
theorem ok_deck {f : Addr} {fd : FuncData} (F : Fun K "_law_deck" "_law_deck" s__law_deck f fd) (T : Tx mg) : FnOk P w K mg base CX0 1 f fd ["script", "cells", "each"] (spDeck K) := by
  refine F.ok sc__law_deck (fun vs H Q E h => ?_) (fun cdv A outer s H vs Q E hr h => ?_)
  · obtain ⟨a, ns, c, e, rfl, _⟩ := h
    rfl
  · obtain ⟨a, ns, c, e, rfl, hS, hl, hc, he, hce, q⟩ := h
    refine ⟨_, (pss_cons (ps_set (i := 3) sc__law_deck.nd rfl (.inl rfl) (pe_lst pa_nil))
    (pss_cons (ps_set (i := 4) sc__law_deck.nd rfl (.inl rfl) (pe_op op_add pe_int (pe_callB call_len_seq rfl T.n_len (by decide +kernel) (pa_cons (pv 0) pa_nil))))
    (pss_cons (ps_for PassesOwn.never rfl (pi_range1 rfl T.n_range (pa_cons (pv 1) pa_nil)) (pg_name (i := 5) sc__law_deck.nd rfl (.inl rfl))
      (pss_cons (ps_set (i := 6) sc__law_deck.nd rfl (.inl rfl) pe_int)
      (C8.pss_cut (ps_if (pt_cmpR op_lt (pv 5) (pe_callB call_len_seq rfl T.n_len (by decide +kernel) (pa_cons (pv 0) pa_nil)) (nomark _))
        (pss_one (ps_set (i := 6) sc__law_deck.nd rfl (.inl rfl) (pe_ix ix_list (pv 0) (pv 5) (fun _ _ => rfl))))
        pss_nil)
      (pss_cons (ps_set (i := 7) sc__law_deck.nd rfl (.inl rfl) (pe_callB call_abs rfl T.n_abs (by decide +kernel) (pa_cons (pv 6) pa_nil)))
      (pss_one (ps_if (pt_cmpR op_ge (pv 7) (pe_op op_pow pe_int pe_int) (nomark _))
        (pss_one (ps_for PassesOwn.never rfl (pi_range1 rfl T.n_range (pa_cons (pv 2) pa_nil)) (pg_name (i := 8) sc__law_deck.nd rfl (.inl rfl))
          (pss_cons (ps_expr (pe_bm PySem.F.plainAttrs_list PySem.F.slot_list_append PySem.F.type_list_append mt_append (pv 3) (pa_cons (pe_op op_mod (pe_callTy call_int1 rfl T.n_int (by decide +kernel) (pa_cons (pv 7) pa_nil)) pe_int) pa_nil)))
          (pss_one (ps_set (i := 7) sc__law_deck.nd rfl (.inl rfl) (pe_op op_fdiv (pv 7) pe_int))))))
        (pss_cons (ps_set (i := 4) sc__law_deck.nd rfl (.inl rfl) (pe_op op_mod (pe_callTy call_int1 rfl T.n_int (by decide +kernel) (pa_cons (pe_op op_add (pe_op op_add (pe_op op_add (pe_op op_mul (pv 4) pe_int) (pe_op op_mul pe_int (pv 7))) (pe_callTy call_int1 rfl T.n_int (by decide +kernel) (pa_cons (pe_cmpR op_lt (pv 6) pe_int (nomark _)) pa_nil))) (pv 5)) pa_nil)) pe_int))
        (pss_one (ps_for PassesOwn.never rfl (pi_range1 rfl T.n_range (pa_cons (pv 2) pa_nil)) (pg_name (i := 8) sc__law_deck.nd rfl (.inl rfl))
          (pss_cons (ps_set (i := 4) sc__law_deck.nd rfl (.inl rfl) (pe_op op_mod (pe_callTy call_int1 rfl T.n_int (by decide +kernel) (pa_cons (pe_op op_add (pe_op op_add (pe_op op_mul (pv 4) pe_int) (pv 8)) pe_int) pa_nil)) pe_int))
          (pss_one (ps_expr (pe_bm PySem.F.plainAttrs_list PySem.F.slot_list_append PySem.F.type_list_append mt_append (pv 3) (pa_cons (pe_op op_mod (pe_callTy call_int1 rfl T.n_int (by decide +kernel) (pa_cons (pe_op op_fdiv (pv 4) pe_int) pa_nil)) pe_int) pa_nil))))))))))))))
    (pss_cons (ps_expr (pe_bm0 PySem.F.plainAttrs_list PySem.F.slot_list_reverse PySem.F.type_list_reverse mt_reverse (pv 3)))
    (pss_one (ps_ret (pv 3))))))), ?_⟩
    refine ⟨Nat.zero_le _, fun p np => ?_⟩
    have s0 : Same H (upd H p (.lst [])) := same_upd np
    refine ⟨.ref a, rfl, a, _, rfl, .inl (s0.seq hS), _, _, rfl, rfl, ?_⟩
    refine ⟨_, rfl, _, rfl, by omega, by omega, ?_⟩
    rw [show ((c : Int).toNat) = c by omega]
    refine for_range (lo := 0) (n := c) (fun i σ H' => ∃ (seed : Int) (y5 y6 y7 y8 : Option V) (ds : List Int), σ = [some (.ref a), some (.int (c : Nat)), some (.int (e : Nat)), some (.ref p), some (.int seed), y5, y6, y7, y8] ∧ Same H H' ∧ H' p = some (.lst (ds.map V.int)) ∧ (∀ d ∈ ds, 0 ≤ d) ∧ ds.length = i * e) ?_ ?_ ?_
    · exact ⟨_, _, _, _, _, [], rfl, s0, upd_same, fun d h => (by simp at h), by simp⟩
    · rintro i σ H1 hi ⟨seed, y5, y6, y7, y8, ds, rfl, s1, h1, nn, hd⟩
      have hie : i * e + e ≤ 20000 := by
        have := Nat.mul_le_mul_right e (show i + 1 ≤ c by omega)
        rw [Nat.add_mul, Nat.one_mul] at this
        omega
      -- if k < len(script): cell = script[k]
      refine ⟨fun σ' H' => H' = H1 ∧ ∃ cell : Int, σ' = [some (.ref a), some (.int (c : Nat)), some (.int (e : Nat)), some (.ref p), some (.int seed), some (.int (0 + (i : Nat))), some (.int cell), y7, y8], ?_, ?_⟩
      · refine ⟨_, rfl, _, rfl, a, _, rfl, .inl (s1.seq hS), _, _, rfl, rfl, _, rfl, ite2 (fun e1 => ?_) (fun e1 => ⟨rfl, 0, rfl⟩)⟩
        have e2 := of_decide_eq_true e1
        rw [List.length_map] at e2
        have hk : i < ns.length := by omega
        refine ⟨_, rfl, _, rfl, a, _, _, .int ns[i], rfl, rfl, s1.seq hS, atI_ofNat (by omega) (by rw [show (0 + (i : Int)).toNat = i by omega, List.getElem?_map, List.getElem?_eq_getElem hk]; rfl), rfl, _, rfl⟩
      · rintro σ' H' ⟨rfl, cell, rfl⟩
        -- rest = abs(cell); if rest >= 10 ** 30
        refine ⟨_, rfl, cell, rfl, ?_⟩
        refine ⟨_, rfl, _, _, rfl, rfl, ⟨by decide, by decide, by decide⟩, _, _, rfl, rfl, _, rfl, ite2 (fun _ => ?_) (fun _ => ?_)⟩
        · refine ⟨_, rfl, _, rfl, by omega, by omega, ?_⟩
          rw [show ((e : Int).toNat) = e by omega]
          refine for_range (lo := 0) (n := e) (fun j σ H2 => ∃ (rest : Int) (y8 : Option V) (ds' : List Int), σ = [some (.ref a), some (.int (c : Nat)), some (.int (e : Nat)), some (.ref p), some (.int seed), some (.int (0 + (i : Nat))), some (.int cell), some (.int rest), y8] ∧ Same H H2 ∧ H2 p = some (.lst (ds'.map V.int)) ∧ (∀ d ∈ ds', 0 ≤ d) ∧ ds'.length = i * e + j) ?_ ?_ ?_
          · exact ⟨_, _, ds, rfl, s1, h1, nn, hd⟩
          · rintro j σ H2 hj ⟨rest, y8, ds', rfl, s2, h2, nn2, hd2⟩
            refine ⟨_, rfl, .inl ⟨rfl, _, .inl (.inl h2)⟩, _, rfl, .inl ⟨rest, rfl, ?_⟩⟩
            refine ⟨_, _, rfl, rfl, (by show (0 : Int) < 1000003; decide), p, _, _, rfl, rfl, h2, szl (by rw [List.length_map]; omega), ?_⟩
            refine ⟨_, rfl, _, _, rfl, rfl, ⟨by decide, by decide⟩, ?_⟩
            refine ⟨_, _, ds' ++ [rest % 1000003], rfl, same_mut s2 np, by rw [upd_same, List.map_append]; rfl, fun d hdd => ?_, by rw [List.length_append]; simp; omega⟩
            rcases List.mem_append.mp hdd with z | z
            · exact nn2 d z
            · rw [List.mem_singleton.mp z]; exact Int.emod_nonneg _ (by decide)
          · rintro σ H2 ⟨rest, y8, ds', rfl, s2, h2, nn2, hd2⟩
            exact ⟨_, _, _, _, _, ds', rfl, s2, h2, nn2, by rw [hd2, Nat.add_mul, Nat.one_mul]⟩
        · refine ⟨_, rfl, _, _, rfl, rfl, .inr ⟨by decide, by decide⟩, _, rfl, _, _, rfl, rfl, .inl ⟨by decide, by decide⟩, _, _, rfl, rfl, _, rfl, _, _, rfl, rfl, .inr ⟨_, rfl, ?_⟩⟩
          refine ⟨_, _, rfl, rfl, _, rfl, _, _, rfl, rfl, .inl ⟨_, rfl, ?_⟩⟩
          refine ⟨_, _, rfl, rfl, (by show (0 : Int) < 2147483647; decide), ?_⟩
          refine ⟨_, rfl, _, rfl, by omega, by omega, ?_⟩
          rw [show ((e : Int).toNat) = e by omega]
          refine for_range (lo := 0) (n := e) (fun j σ H2 => ∃ (seed rest : Int) (y8 : Option V) (ds' : List Int), σ = [some (.ref a), some (.int (c : Nat)), some (.int (e : Nat)), some (.ref p), some (.int seed), some (.int (0 + (i : Nat))), some (.int cell), some (.int rest), y8] ∧ Same H H2 ∧ H2 p = some (.lst (ds'.map V.int)) ∧ (∀ d ∈ ds', 0 ≤ d) ∧ ds'.length = i * e + j) ?_ ?_ ?_
          · exact ⟨_, _, _, ds, rfl, s1, h1, nn, hd⟩
          · rintro j σ H2 hj ⟨seed2, rest, y8, ds', rfl, s2, h2, nn2, hd2⟩
            refine ⟨_, rfl, _, _, rfl, rfl, .inr ⟨by decide, by decide⟩, _, rfl, _, _, rfl, rfl, _, _, rfl, rfl, .inl ⟨_, rfl, ?_⟩⟩
            refine ⟨_, _, rfl, rfl, (by show (0 : Int) < 2147483629; decide), ?_⟩
            refine ⟨_, rfl, .inl ⟨rfl, _, .inl (.inl h2)⟩, _, rfl, _, _, rfl, rfl, ⟨by decide, by decide⟩, .inl ⟨_, rfl, ?_⟩⟩
            refine ⟨_, _, rfl, rfl, (by show (0 : Int) < 1000003; decide), p, _, _, rfl, rfl, h2, szl (by rw [List.length_map]; omega), ?_⟩
            refine ⟨_, _, _, ds' ++ [_], rfl, same_mut s2 np, by rw [upd_same, List.map_append]; rfl, fun d hdd => ?_, by rw [List.length_append]; simp; omega⟩
            rcases List.mem_append.mp hdd with z | z
            · exact nn2 d z
            · rw [List.mem_singleton.mp z]; exact Int.emod_nonneg _ (by decide)
          · rintro σ H2 ⟨seed2, rest, y8, ds', rfl, s2, h2, nn2, hd2⟩
            exact ⟨_, _, _, _, _, ds', rfl, s2, h2, nn2, by rw [hd2, Nat.add_mul, Nat.one_mul]⟩
    · rintro σ H1 ⟨seed, y5, y6, y7, y8, ds, rfl, s1, h1, nn, hd⟩
      -- deck.reverse(); return deck
      refine ⟨_, rfl, .inl ⟨rfl, _, .inl (.inl h1)⟩, p, _, rfl, rfl, h1, ?_⟩
      refine ⟨_, rfl, q _ p (same_mut s1 np) np ⟨ds.reverse, by rw [upd_same, List.map_reverse], fun d hdd => nn d (List.mem_reverse.mp hdd), by rw [List.length_reverse, hd]; exact hce⟩⟩
def spTake : Sp := fun vs H Q _ => ∃ (p : Addr) (m : Int), vs = [.ref p, .int m] ∧ 0 < m ∧ Deck H p ∧ ∀ H' r, Kp p H H' → Deck H' p → 0 ≤ r → r < m → Q (.int r) H'
abbrev s__law_take : Stmt := topS 4
theorem sc__law_take : FnScope ["deck", "many"] ["deck", "many"] (defScope s__law_take) := ⟨rfl, rfl, rfl, by decide +kernel, rfl, by decide +kernel, by decide +kernel⟩
theorem ok_take {f : Addr} {fd : FuncData} (F : Fun K "_law_take" "_law_take" s__law_take f fd) (T : Tx mg) : FnOk P w K mg base CX0 1 f fd ["deck", "many"] spTake := by
  refine F.ok sc__law_take (fun vs H Q E h => ?_) (fun cdv A outer s H vs Q E hr h => ?_)
  · obtain ⟨p, m, rfl, _⟩ := h
    rfl
  · obtain ⟨p, m, rfl, hm, ⟨ds, hp, nn, hl⟩, q⟩ := h
    refine ⟨_, (pss_cons (ps_if (pt_cmpR op_eq (pe_callB call_len_seq rfl T.n_len (by decide +kernel) (pa_cons (pv 0) pa_nil)) pe_int (nomark _))
      (pss_one (ps_ret pe_int))
      pss_nil)
    (pss_one (ps_ret (pe_op op_mod (pe_callTy call_int1 rfl T.n_int (by decide +kernel) (pa_cons (pe_bm0 PySem.F.plainAttrs_list PySem.F.slot_list_pop PySem.F.type_list_pop mt_pop (pv 0)) pa_nil)) (pv 1))))), ?_⟩
    refine ⟨_, rfl, p, _, rfl, .inl (.inl (.inl hp)), rfl, _, rfl, ite2 (fun e => ?_) (fun e => ?_)⟩
    · exact q H 0 (Kp.refl p H) ⟨ds, hp, nn, hl⟩ (Int.le_refl 0) hm
    · have hne : ds ≠ [] := fun z => e (by subst z; exact decide_eq_true rfl)
      have e0 : ds = ds.dropLast ++ [ds.getLast hne] := (List.dropLast_concat_getLast hne).symm
      have hg : (ds.map V.int)[(ds.map V.int).length - 1]? = some (.int (ds.getLast hne)) := by
        rw [List.length_map, List.getElem?_map, ← List.getLast?_eq_getElem?, List.getLast?_eq_getLast hne]
        rfl
      refine ⟨_, rfl, .inl ⟨rfl, _, .inl (.inl hp)⟩, p, _, _, rfl, rfl, hp, hg, .inl ⟨_, rfl, _, rfl, ?_⟩⟩
      refine ⟨_, _, rfl, rfl, hm, ?_⟩
      refine q _ _ Kp.upd ⟨ds.dropLast, by rw [upd_same, List.map_dropLast], fun d hd => nn d (by rw [e0]; exact List.mem_append_left _ hd), by rw [List.length_dropLast]; omega⟩ (Int.emod_nonneg _ (by omega)) (Int.emod_lt_of_pos _ hm)
/-! ### _law_plain -/
def spPlain (K : PySem.W.Frag) (n : Nat) : Sp := fun vs H Q _ => ∃ (v : V) (d : PyData), vs = [v] ∧ Dp K H v d ∧ okD n d ∧ ∀ H' v', Same H H' → NewD K H H' v' (plainD d) → Q v' H'
/-- what its own calls are promised: data a level less deep -/
def spPlainLt (K : PySem.W.Frag) (n : Nat) : Sp := fun vs H Q E => ∃ m, n = m + 1 ∧ spPlain K m vs H Q E
abbrev s__law_plain : Stmt := topS 5
theorem sc__law_plain : FnScope ["value", "item"] ["value"] (defScope s__law_plain) := ⟨rfl, rfl, rfl, by decide +kernel, rfl, by decide +kernel, by decide +kernel⟩
theorem ok_plain {n : Nat} {f : Addr} {fd : FuncData} (F : Fun K "_law_plain" "_law_plain" s__law_plain f fd) (T : Tx mg) (C__law_plain : C8.Cal P w K mg base n "_law_plain" (spPlainLt K n) []) : FnOk P w K mg base CX0 (n + 1) f fd ["value"] (spPlain K n) := by
  refine F.ok sc__law_plain (fun vs H Q E h => ?_) (fun cdv A outer s H vs Q E hr h => ?_)
  · obtain ⟨v, d, rfl, _⟩ := h
    rfl
  · obtain ⟨v, d, rfl, hd, ho, q⟩ := h
    refine ⟨_, (pss_cons (ps_if (pt_val (pe_callB call_isiT rfl T.n_isinstance (by decide +kernel) (pa_cons (pv 0) (pa_cons (pe_tup (pa_cons (pe_bltn (v := .ty "tuple") (u := .type "tuple") rfl T.n_tuple (by decide +kernel) rfl) (pa_cons (pe_bltn (v := .ty "list") (u := .type "list") rfl T.n_list (by decide +kernel) rfl) pa_nil))) pa_nil))))
      (pss_one (ps_ret (pe_op op_cat (pe_lst (pa_cons (pe_callB call_isi rfl T.n_isinstance (by decide +kernel) (pa_cons (pv 0) (pa_cons (pe_bltn (v := .ty "list") (u := .type "list") rfl T.n_list (by decide +kernel) rfl) pa_nil))) pa_nil)) (pe_lc (own := [("item", 1)]) rfl sc__law_plain.nd (pi_seq (pv 0)) (blkOk_by (own := [("item", 1)]) (N := ["value", "item"]) (sc := defScope s__law_plain) (by decide +kernel)) (fun _ _ _ _ _ => (pg_name (i := 1) sc__law_plain.nd rfl (.inl rfl))) (fun _ _ _ _ _ => pts_nil) (fun _ _ _ _ _ => (C8.pe_c C__law_plain hr (by omega) rfl (pa_cons (pv 1) pa_nil)))))))
      pss_nil)
    (pss_cons (ps_if (PW.pt (pw_or (pt_cmpR op_isN (pv 0) pe_non (nomark _)) (pw_or1 (pt_val (pe_callB call_isi rfl T.n_isinstance (by decide +kernel) (pa_cons (pv 0) (pa_cons (pe_bltn (v := .ty "bool") (u := .type "bool") rfl T.n_bool (by decide +kernel) rfl) pa_nil)))))))
      (pss_one (ps_ret (pe_ix ix_list (pe_lst (pa_cons pe_str (pa_cons pe_str (pa_cons pe_str pa_nil)))) (pe_op op_add (pe_callTy call_int1 rfl T.n_int (by decide +kernel) (pa_cons (pe_cmpR op_notN (pv 0) pe_non (nomark _)) pa_nil)) (pe_callTy call_int1 rfl T.n_int (by decide +kernel) (pa_cons (pe_cmpR op_isB (pv 0) pe_bl (nomark _)) pa_nil))) (fun _ _ => rfl))))
      pss_nil)
    (pss_cons (ps_if (pt_val (pe_callB call_isiT rfl T.n_isinstance (by decide +kernel) (pa_cons (pv 0) (pa_cons (pe_tup (pa_cons (pe_bltn (v := .ty "int") (u := .type "int") rfl T.n_int (by decide +kernel) rfl) (pa_cons (pe_bltn (v := .ty "str") (u := .type "str") rfl T.n_str (by decide +kernel) rfl) pa_nil))) pa_nil))))
      (pss_one (ps_ret (pe_lst (pa_cons (pe_callB call_isi rfl T.n_isinstance (by decide +kernel) (pa_cons (pv 0) (pa_cons (pe_bltn (v := .ty "str") (u := .type "str") rfl T.n_str (by decide +kernel) rfl) pa_nil))) (pa_cons (pv 0) pa_nil)))))
      pss_nil)
    (pss_one (ps_ret pe_str))))), ?_⟩
    refine ⟨_, rfl, by show 2 ≤ sizeLine; decide, fun p np => ?_⟩
    have s0 : Same H (upd H p (.tup [.ty "tuple", .ty "list"])) := same_upd np
    cases d with
    | none =>
      cases hd
      refine ⟨.non, p, _, .type "NoneType", _, false, rfl, upd_same, .cons (.ty _) (.cons (.ty _) .nil), .base .non, kit2 (r1 := false) (r2 := false) (by decide +kernel) (by decide +kernel), _, rfl, iteF ?_⟩
      refine ⟨_, rfl, rfl, _, rfl, iteT ?_⟩
      refine ⟨by show 3 ≤ sizeLine; decide, fun l nl => ⟨_, rfl, rfl, .inr ⟨_, rfl, _, rfl, _, rfl, .inl rfl, .inr ⟨_, rfl, _, _, rfl, rfl, l, _, _, .str "None", rfl, rfl, .inl (.inl upd_same), rfl, ?_⟩⟩⟩⟩
      exact q _ _ (s0.trans (same_upd nl)) fun H2 _ => .str _
    | bool b =>
      cases hd
      refine ⟨.bl b, p, _, .type "bool", _, false, rfl, upd_same, .cons (.ty _) (.cons (.ty _) .nil), .base (.bl b), kit2 (r1 := false) (r2 := false) (by decide +kernel) (by decide +kernel), _, rfl, iteF ?_⟩
      refine ⟨_, rfl, rfl, _, rfl, iteF ⟨_, rfl, .bl b, _, .type "bool", _, true, rfl, .ty _, .base (.bl b), kit_ty (by decide +kernel), _, rfl, iteT ?_⟩⟩
      refine ⟨by show 3 ≤ sizeLine; decide, fun l nl => ⟨_, rfl, rfl, .inr ⟨_, rfl, _, rfl, _, rfl, .inr ⟨b, rfl⟩, .inr ⟨_, rfl, _, _, rfl, rfl, l, _, _, .str (if b = true then "True" else "False"), rfl, rfl, .inl (.inl upd_same), (by cases b <;> rfl), ?_⟩⟩⟩⟩
      refine q _ _ (s0.trans (same_upd nl)) fun H2 _ => ?_
      rw [plainD]
      exact .str _
    | int i =>
      cases hd
      refine ⟨.int i, p, _, .type "int", _, false, rfl, upd_same, .cons (.ty _) (.cons (.ty _) .nil), .base (.int i), kit2 (r1 := false) (r2 := false) (by decide +kernel) (by decide +kernel), _, rfl, iteF ?_⟩
      refine ⟨_, rfl, rfl, _, rfl, iteF ⟨_, rfl, .int i, _, .type "int", _, false, rfl, .ty _, .base (.int i), kit_ty (by decide +kernel), _, rfl, iteF ?_⟩⟩
      refine ⟨_, rfl, by show 2 ≤ sizeLine; decide, fun p2 np2 => ?_⟩
      refine ⟨.int i, p2, _, .type "int", _, true, rfl, upd_same, .cons (.ty _) (.cons (.ty _) .nil), .base (.int i), kit2 (r1 := true) (r2 := false) (by decide +kernel) (by decide +kernel), _, rfl, iteT ?_⟩
      refine ⟨_, rfl, .int i, _, .type "int", _, false, rfl, .ty _, .base (.int i), kit_ty (by decide +kernel), _, rfl, by show 2 ≤ sizeLine; decide, fun l nl => ?_⟩
      refine q _ _ ((s0.trans (same_upd np2)).trans (same_upd nl)) fun H2 k => ?_
      exact .lst (.inl (.inl (k l _ upd_same ((s0.trans (same_upd np2)).free nl)))) (.cons (.bl _) (.cons (.int i) .nil))
    | str x =>
      cases hd
      refine ⟨.str x, p, _, .type "str", _, false, rfl, upd_same, .cons (.ty _) (.cons (.ty _) .nil), .base (.str x), kit2 (r1 := false) (r2 := false) (by decide +kernel) (by decide +kernel), _, rfl, iteF ?_⟩
      refine ⟨_, rfl, rfl, _, rfl, iteF ⟨_, rfl, .str x, _, .type "str", _, false, rfl, .ty _, .base (.str x), kit_ty (by decide +kernel), _, rfl, iteF ?_⟩⟩
      refine ⟨_, rfl, by show 2 ≤ sizeLine; decide, fun p2 np2 => ?_⟩
      refine ⟨.str x, p2, _, .type "str", _, true, rfl, upd_same, .cons (.ty _) (.cons (.ty _) .nil), .base (.str x), kit2 (r1 := false) (r2 := true) (by decide +kernel) (by decide +kernel), _, rfl, iteT ?_⟩
      refine ⟨_, rfl, .str x, _, .type "str", _, true, rfl, .ty _, .base (.str x), kit_ty (by decide +kernel), _, rfl, by show 2 ≤ sizeLine; decide, fun l nl => ?_⟩
      refine q _ _ ((s0.trans (same_upd np2)).trans (same_upd nl)) fun H2 k => ?_
      exact .lst (.inl (.inl (k l _ upd_same ((s0.trans (same_upd np2)).free nl)))) (.cons (.bl _) (.cons (.str x) .nil))
    | dict kvs => cases hd
    | list ds =>
      cases hd with
      | @lst a xs _ h1 h2 =>
      have hlen := dpAll_len h2
      obtain ⟨m, rfl⟩ : ∃ m, n = m + 1 := by
        cases n with
        | zero => exact False.elim ho
        | succ m => exact ⟨m, rfl⟩
      obtain ⟨o1, o2⟩ := (show ds.length ≤ 50000 ∧ ∀ x ∈ ds, okD m x from ho)
      refine ⟨.ref a, p, _, .type "list", _, true, rfl, upd_same, .cons (.ty _) (.cons (.ty _) .nil), tyL (s0.seq h1), kit2 (r1 := false) (r2 := true) (by decide +kernel) (by decide +kernel), _, rfl, iteT ?_⟩
      refine ⟨_, rfl, .ref a, _, .type "list", _, true, rfl, .ty _, tyL (s0.seq h1), kit_ty (by decide +kernel), by show 1 ≤ sizeLine; decide, fun l nl => ?_⟩
      have s1 := s0.trans (same_upd (o := HO.lst [V.bl true]) nl)
      refine ⟨_, rfl, a, rfl, .inl ⟨⟨xs, s1.seq h1⟩, fun D nD => ?_⟩⟩
      have nlD : l ≠ D := ne_of_none upd_same nD
      have nD0 : H D = none := s1.free nD
      refine lc_list (xs := xs) (fun i H3 => ∃ vs : List V, H3 D = some (.lst vs) ∧ vs.length = i ∧ Same H H3 ∧ H3 l = some (.lst [.bl true]) ∧ NewAll K H D H3 vs (plainAll (ds.take i))) ?_ ?_ ?_ ?_
      · exact ⟨[], upd_same, rfl, s1.trans (same_upd nD), by rw [upd_ne nlD, upd_same], fun _ _ => .nil⟩
      · rintro i H3 _ ⟨vs, _, _, s3, _⟩
        exact s3.seq h1
      · rintro i x H3 hx ⟨vs, hD, hvl, s3, h3l, hn⟩
        obtain ⟨dx, hdx, hxx⟩ := dpAll_get h2 i x hx
        refine ⟨rfl, _, rfl, m, rfl, x, dx, rfl, dp_mono s3 _ _ hxx, o2 dx (List.mem_of_getElem? hdx), fun H4 v' s4 n4 => ?_⟩
        refine ⟨vs, s4 _ _ hD, szl (by have := (List.getElem?_eq_some_iff.mp hx).1; omega), vs ++ [v'], upd_same, by rw [List.length_append, hvl]; rfl, same_mut (s3.trans s4) nD0, by rw [upd_ne nlD]; exact s4 _ _ h3l, ?_⟩
        rw [List.take_add_one, hdx, plainAll_map, List.map_append, ← plainAll_map]
        exact hn.snoc s3 hD s4 n4
      · rintro H3 ⟨vs, hD, hvl, s3, h3l, hn⟩
        refine ⟨l, D, _, _, rfl, rfl, h3l, hD, szL (by show 1 + vs.length ≤ 100000; omega), fun r nr => ?_⟩
        refine q _ _ (s3.trans (same_upd nr)) fun H4 k => ?_
        rw [plainD]
        rw [show plainAll ds = plainAll (ds.take xs.length) by rw [List.take_of_length_le (by omega)]]
        refine .lst (.inl (.inl (k r _ upd_same (s3.free nr)))) (.cons (.bl _) (hn H4 fun b o e n0 nb => k b o (same_upd nr b o e) n0))
    | tuple ds =>
      cases hd with
      | @tup a xs _ h1 h2 =>
      have hlen := dpAll_len h2
      obtain ⟨m, rfl⟩ : ∃ m, n = m + 1 := by
        cases n with
        | zero => exact False.elim ho
        | succ m => exact ⟨m, rfl⟩
      obtain ⟨o1, o2⟩ := (show ds.length ≤ 50000 ∧ ∀ x ∈ ds, okD m x from ho)
      refine ⟨.ref a, p, _, .type "tuple", _, true, rfl, upd_same, .cons (.ty _) (.cons (.ty _) .nil), tyT (Same.tup s0 h1), kit2 (r1 := true) (r2 := false) (by decide +kernel) (by decide +kernel), _, rfl, iteT ?_⟩
      refine ⟨_, rfl, .ref a, _, .type "tuple", _, false, rfl, .ty _, tyT (Same.tup s0 h1), kit_ty (by decide +kernel), by show 1 ≤ sizeLine; decide, fun l nl => ?_⟩
      have s1 := s0.trans (same_upd (o := HO.lst [V.bl false]) nl)
      refine ⟨_, rfl, a, rfl, .inr ⟨⟨xs, Same.tup s1 h1⟩, fun D nD => ?_⟩⟩
      have nlD : l ≠ D := ne_of_none upd_same nD
      have nD0 : H D = none := s1.free nD
      refine lc_tup (xs := xs) (fun i H3 => ∃ vs : List V, H3 D = some (.lst vs) ∧ vs.length = i ∧ Same H H3 ∧ H3 l = some (.lst [.bl false]) ∧ NewAll K H D H3 vs (plainAll (ds.take i))) ?_ ?_ ?_ ?_
      · exact ⟨[], upd_same, rfl, s1.trans (same_upd nD), by rw [upd_ne nlD, upd_same], fun _ _ => .nil⟩
      · rintro i H3 _ ⟨vs, _, _, s3, _⟩
        exact Same.tup s3 h1
      · rintro i x H3 hx ⟨vs, hD, hvl, s3, h3l, hn⟩
        obtain ⟨dx, hdx, hxx⟩ := dpAll_get h2 i x hx
        refine ⟨rfl, _, rfl, m, rfl, x, dx, rfl, dp_mono s3 _ _ hxx, o2 dx (List.mem_of_getElem? hdx), fun H4 v' s4 n4 => ?_⟩
        refine ⟨vs, s4 _ _ hD, szl (by have := (List.getElem?_eq_some_iff.mp hx).1; omega), vs ++ [v'], upd_same, by rw [List.length_append, hvl]; rfl, same_mut (s3.trans s4) nD0, by rw [upd_ne nlD]; exact s4 _ _ h3l, ?_⟩
        rw [List.take_add_one, hdx, plainAll_map, List.map_append, ← plainAll_map]
        exact hn.snoc s3 hD s4 n4
      · rintro H3 ⟨vs, hD, hvl, s3, h3l, hn⟩
        refine ⟨l, D, _, _, rfl, rfl, h3l, hD, szL (by show 1 + vs.length ≤ 100000; omega), fun r nr => ?_⟩
        refine q _ _ (s3.trans (same_upd nr)) fun H4 k => ?_
        rw [plainD]
        rw [show plainAll ds = plainAll (ds.take xs.length) by rw [List.take_of_length_le (by omega)]]
        refine .lst (.inl (.inl (k r _ upd_same (s3.free nr)))) (.cons (.bl _) (hn H4 fun b o e n0 nb => k b o (same_upd nr b o e) n0))
theorem cal_plain {f : Addr} {fd : FuncData} (F : Fun K "_law_plain" "_law_plain" s__law_plain f fd) (T : Tx mg) (hm : mg "_law_plain" = some (.ref f)) (b : Binds K fd ["value"] []) : ∀ n, C8.Cal P w K mg base n "_law_plain" (spPlainLt K n) []
  | 0 => ⟨f, fd, ["value"], [], ⟨fun _ _ _ _ h => (by obtain ⟨m, e, _⟩ := h; omega), fun _ _ _ _ _ _ _ _ _ _ _ _ _ h => (by obtain ⟨m, e, _⟩ := h; omega)⟩, hm, F.kp, b, .nil⟩
  | n + 1 => ⟨f, fd, ["value"], [], (ok_plain F T (cal_plain F T hm b n)).imp (fun vs H Q E h => by obtain ⟨m, e, h⟩ := h; cases e; exact h), hm, F.kp, b, .nil⟩
/-! ### words, slips -/
def spWord : Sp := fun vs H Q _ => ∃ (p : Addr) (m : Int), vs = [.ref p, .int m] ∧ 0 < m ∧ m ≤ 100 ∧ Deck H p ∧ ∀ H' (l : List Nat), Kp p H H' → Deck H' p → (l.length : Int) < m → Q (.str (S l)) H'
abbrev s__law_word : Stmt := topS 8
theorem sc__law_word : FnScope ["deck", "most", "word", "step"] ["deck", "most"] (defScope s__law_word) := ⟨rfl, rfl, rfl, by decide +kernel, rfl, by decide +kernel, by decide +kernel⟩
theorem ok_word {f : Addr} {fd : FuncData} (F : Fun K "_law_word" "_law_word" s__law_word f fd) (T : Tx mg) (C__law_take : C8.Cal P w K mg base 1 "_law_take" spTake []) : FnOk P w K mg base CX0 2 f fd ["deck", "most"] spWord := by
  refine F.ok sc__law_word (fun vs H Q E h => ?_) (fun cdv A outer s H vs Q E hr h => ?_)
  · obtain ⟨p, m, rfl, _⟩ := h
    rfl
  · obtain ⟨p, m, rfl, h0, h1, hd, q⟩ := h
    refine ⟨_, (pss_cons (ps_set (i := 2) sc__law_word.nd rfl (.inl rfl) pe_str)
    (pss_cons (ps_for PassesOwn.never rfl (pi_range1 rfl T.n_range (pa_cons (C8.pe_c C__law_take hr (by omega) rfl (pa_cons (pv 0) (pa_cons (pv 1) pa_nil))) pa_nil)) (pg_name (i := 3) sc__law_word.nd rfl (.inl rfl))
      (pss_one (ps_set (i := 2) sc__law_word.nd rfl (.inl rfl) (pe_op op_add_str (pv 2) (pe_ix ix_str pe_str (C8.pe_c C__law_take hr (by omega) rfl (pa_cons (pv 0) (pa_cons pe_int pa_nil))) (fun _ _ => rfl))))))
    (pss_one (ps_ret (pv 2))))), ?_⟩
    refine ⟨_, rfl, _, rfl, p, m, rfl, h0, hd, fun H1 r k1 hd1 r0 r1 => ⟨r, rfl, by omega, by omega, ?_⟩⟩
    refine for_range (lo := 0) (n := r.toNat) (fun i σ H2 => ∃ (l : List Nat) (y3 : Option V), σ = [some (.ref p), some (.int m), some (.str (S l)), y3] ∧ Kp p H H2 ∧ Deck H2 p ∧ l.length = i) ?_ ?_ ?_
    · exact ⟨[], _, by rw [show (S [] : Str) = Str.ofString "" by decide +kernel]; rfl, k1, hd1, rfl⟩
    · rintro i σ H2 hi ⟨l, y3, rfl, k2, hd2, hl⟩
      refine ⟨_, rfl, _, rfl, p, 4, rfl, by decide, hd2, fun H3 r' k3 hd3 r0' r1' => ?_⟩
      obtain ⟨c, hc⟩ : ∃ c, atI (Str.ofString "abcx").cps.toList r' = some c := by
        have e : (Str.ofString "abcx").cps.toList = [97, 98, 99, 120] := by decide +kernel
        rw [e]
        exact ⟨_, atI_ofNat r0' (List.getElem?_eq_getElem (by show r'.toNat < 4; omega))⟩
      refine ⟨_, r', c, rfl, rfl, by decide +kernel, hc, _, _, rfl, rfl, by rw [S_len]; exact szL (by show l.length + 1 ≤ 100000; omega), l ++ [c], _, by rw [S_add1]; rfl, k2.trans k3, hd3, by rw [List.length_append, hl]; rfl⟩
    · rintro σ H2 ⟨l, y3, rfl, k2, hd2, hl⟩
      exact ⟨_, rfl, q H2 l k2 hd2 (by omega)⟩
def spSlip : Sp := fun vs H Q _ => ∃ (p : Addr) (l : List Nat), vs = [.ref p, .str (S l), .str (Str.ofString "abcx")] ∧ l ≠ [] ∧ l.length ≤ 100 ∧ Deck H p ∧ ∀ H' (l' : List Nat), Kp p H H' → Deck H' p → l'.length ≤ 101 → lev l.reverse l'.reverse ≤ 1 → Q (.str (S l')) H'
abbrev s__law_slip : Stmt := topS 7
theorem sc__law_slip : FnScope ["deck", "word", "letters", "way", "at", "sign"] ["deck", "word", "letters"] (defScope s__law_slip) := ⟨rfl, rfl, rfl, by decide +kernel, rfl, by decide +kernel, by decide +kernel⟩
theorem ok_slip {f : Addr} {fd : FuncData} (F : Fun K "_law_slip" "_law_slip" s__law_slip f fd) (T : Tx mg) (C__law_take : C8.Cal P w K mg base 1 "_law_take" spTake []) : FnOk P w K mg base CX0 2 f fd ["deck", "word", "letters"] spSlip := by
  refine F.ok sc__law_slip (fun vs H Q E h => ?_) (fun cdv A outer s H vs Q E hr h => ?_)
  · obtain ⟨p, l, rfl, _⟩ := h
    rfl
  · obtain ⟨p, l, rfl, hne, hl, hd, q⟩ := h
    refine ⟨_, (pss_cons (ps_set (i := 3) sc__law_slip.nd rfl (.inl rfl) (C8.pe_c C__law_take hr (by omega) rfl (pa_cons (pv 0) (pa_cons pe_int pa_nil))))
    (pss_cons (ps_set (i := 4) sc__law_slip.nd rfl (.inl rfl) (C8.pe_c C__law_take hr (by omega) rfl (pa_cons (pv 0) (pa_cons (pe_callB call_len_str rfl T.n_len (by decide +kernel) (pa_cons (pv 1) pa_nil)) pa_nil))))
    (pss_cons (ps_set (i := 5) sc__law_slip.nd rfl (.inl rfl) (pe_ix ix_str (pv 2) (C8.pe_c C__law_take hr (by omega) rfl (pa_cons (pv 0) (pa_cons (pe_callB call_len_str rfl T.n_len (by decide +kernel) (pa_cons (pv 2) pa_nil)) pa_nil))) (fun _ _ => rfl)))
    (pss_cons (ps_if (pt_cmpR op_eq (pv 3) pe_int (nomark _))
      (pss_one (ps_ret (pe_op op_add_str (pe_op op_add_str (pe_slice sl_str (pv 1) po_none (po_some (pv 4))) (pv 5)) (pe_slice sl_str (pv 1) (po_some (pv 4)) po_none))))
      pss_nil)
    (C8.pss_cut (ps_if (PW.pt (pw_and (pt_cmpR op_eq (pv 3) pe_int (nomark _)) (pw_and1 (pt_cmpR op_gt (pe_callB call_len_str rfl T.n_len (by decide +kernel) (pa_cons (pv 1) pa_nil)) pe_int (nomark _)))))
      (pss_one (ps_ret (pe_op op_add_str (pe_slice sl_str (pv 1) po_none (po_some (pv 4))) (pe_slice sl_str (pv 1) (po_some (pe_op op_add (pv 4) pe_int)) po_none))))
      pss_nil)
    (C8.pss_cut (ps_if (PW.pt (pw_and (pt_cmpR op_eq (pv 3) pe_int (nomark _)) (pw_and1 (pt_cmpR op_lt (pe_op op_add (pv 4) pe_int) (pe_callB call_len_str rfl T.n_len (by decide +kernel) (pa_cons (pv 1) pa_nil)) (nomark _)))))
      (pss_one (ps_ret (pe_op op_add_str (pe_op op_add_str (pe_op op_add_str (pe_slice sl_str (pv 1) po_none (po_some (pv 4))) (pe_ix ix_str (pv 1) (pe_op op_add (pv 4) pe_int) (fun _ _ => rfl))) (pe_ix ix_str (pv 1) (pv 4) (fun _ _ => rfl))) (pe_slice sl_str (pv 1) (po_some (pe_op op_add (pv 4) pe_int)) po_none))))
      pss_nil)
    (pss_one (ps_ret (pe_op op_add_str (pe_op op_add_str (pe_slice sl_str (pv 1) po_none (po_some (pv 4))) (pv 5)) (pe_slice sl_str (pv 1) (po_some (pe_op op_add (pv 4) pe_int)) po_none)))))))))), ?_⟩
    have l0 : 0 < l.length := by
      cases l with
      | nil => exact absurd rfl hne
      | cons x r => exact Nat.succ_pos _
    have zl : (S l).length ≤ sizeLine := szL (by rw [S_len]; omega)
    refine ⟨_, rfl, p, 4, rfl, by decide, hd, fun H1 way k1 hd1 w0 w1 => ?_⟩
    refine ⟨_, rfl, _, rfl, _, rfl, zl, p, _, rfl, by rw [S_len]; omega, hd1, fun H2 at_ k2 hd2 a0 a1 => ?_⟩
    rw [S_len] at a1
    obtain ⟨n, rfl⟩ : ∃ n : Nat, at_ = (n : Int) := ⟨at_.toNat, by omega⟩
    have hn : n < l.length := by omega
    refine ⟨_, rfl, _, rfl, _, rfl, _, rfl, by decide +kernel, p, _, rfl, by decide +kernel, hd2, fun H3 r k3 hd3 r0 r1 => ?_⟩
    obtain ⟨c, hc⟩ : ∃ c, atI (Str.ofString "abcx").cps.toList r = some c := by
      have e : (Str.ofString "abcx").cps.toList = [97, 98, 99, 120] := by decide +kernel
      have e2 : ((Str.ofString "abcx").length : Int) = 4 := by decide +kernel
      rw [e2] at r1
      rw [e]
      exact ⟨_, atI_ofNat r0 (List.getElem?_eq_getElem (by show r.toNat < 4; omega))⟩
    have kk := k1.trans (k2.trans k3)
    have gn : l[n]? = some l[n] := List.getElem?_eq_getElem hn
    have el : l = l.take n ++ l[n] :: l.drop (n + 1) := by rw [List.getElem_cons_drop hn, List.take_append_drop]
    have tl : (l.take n).length = n := by rw [List.length_take]; omega
    have dl : (l.drop n).length = l.length - n := List.length_drop
    have dl1 : (l.drop (n + 1)).length = l.length - (n + 1) := List.length_drop
    have er : l.reverse = (l.drop (n + 1)).reverse ++ ([l[n]] ++ (l.take n).reverse) := by
      have := congrArg List.reverse el
      rw [List.reverse_append, List.reverse_cons, List.append_assoc] at this
      exact this
    have put : lev l.reverse ((l.take n ++ [c]) ++ l.drop n).reverse ≤ 1 := by
      have e : l.reverse = (l.drop n).reverse ++ (l.take n).reverse := by rw [← List.reverse_append, List.take_append_drop]
      rw [e, List.reverse_append, List.reverse_append]
      refine Nat.le_trans (lev_pre _ _ _) ?_
      have := lev_ins c (l.take n).reverse (l.take n).reverse
      rw [lev_self] at this
      exact this
    have sub : lev l.reverse ((l.take n ++ [c]) ++ l.drop (n + 1)).reverse ≤ 1 := by
      rw [er, List.reverse_append, List.reverse_append]
      refine Nat.le_trans (lev_pre _ _ _) ?_
      have := lev_sub l[n] c (l.take n).reverse (l.take n).reverse
      rw [lev_self] at this
      refine Nat.le_trans this ?_
      split <;> omega
    have del : lev l.reverse (l.take n ++ l.drop (n + 1)).reverse ≤ 1 := by
      rw [er, List.reverse_append]
      refine Nat.le_trans (lev_pre _ _ _) ?_
      have := lev_del l[n] (l.take n).reverse (l.take n).reverse
      rw [lev_self] at this
      exact this
    refine ⟨_, r, c, rfl, rfl, by decide +kernel, hc, ?_⟩
    have ct : cutS (S l) none (some (n : Int)) = S (l.take n) := cut_to l n
    have cf : cutS (S l) (some (n : Int)) none = S (l.drop n) := cut_from l n
    have cf1 : cutS (S l) (some ((n : Int) + 1)) none = S (l.drop (n + 1)) := cut_from l (n + 1)
    have cf2 : cutS (S l) (some ((n : Int) + 2)) none = S (l.drop (n + 2)) := cut_from l (n + 2)
    have zt : (cutS (S l) none (some (n : Int))).length = n := by rw [ct, S_len, tl]
    -- if way == 0
    refine ⟨_, rfl, rfl, _, rfl, ite2 (fun e => ?_) (fun e => ?_)⟩
    · refine ⟨_, rfl, _, rfl, _, rfl, _, rfl, zl, _, rfl, _, _, rfl, rfl, szL (by rw [zt]; show n + 1 ≤ 100000; omega), _, rfl, _, rfl, _, rfl, _, rfl, zl, _, _, rfl, rfl, ?_, ?_⟩
      · rw [ct, cf, S_add1, S_len, S_len, List.length_append, tl, dl]
        exact szL (by show n + 1 + (l.length - n) ≤ 100000; omega)
      · rw [ct, cf, S_add1, S_add]
        refine q H3 _ kk hd3 ?_ put
        rw [List.length_append, List.length_append, tl, dl]
        show n + 1 + (l.length - n) ≤ 101
        omega
    -- if way == 1 and len(word) > 1
    refine ⟨fun σ' H' => σ' = [some (.ref p), some (.str (S l)), some (.str (Str.ofString "abcx")), some (.int way), some (.int (n : Int)), some (.str ⟨#[c]⟩)] ∧ H' = H3, ?_, ?_⟩
    · refine ⟨_, rfl, rfl, _, rfl, ite2 (fun e1 => ⟨_, rfl, _, rfl, zl, _, _, rfl, rfl, _, rfl, ite2 (fun e2 => ?_) (fun e2 => ⟨rfl, rfl⟩)⟩) (fun e1 => iteF ⟨rfl, rfl⟩)⟩
      refine ⟨_, rfl, _, rfl, _, rfl, _, rfl, zl, _, rfl, _, rfl, _, _, rfl, rfl, _, rfl, _, rfl, zl, _, _, rfl, rfl, ?_, ?_⟩
      · rw [ct, cf1, S_len, S_len, tl, dl1]
        exact szL (by omega)
      · rw [ct, cf1, S_add]
        refine q H3 _ kk hd3 ?_ del
        rw [List.length_append, tl, dl1]
        omega
    rintro σ' H' ⟨rfl, rfl⟩
    -- if way == 2 and at + 1 < len(word)
    refine ⟨fun σ' H'' => σ' = [some (.ref p), some (.str (S l)), some (.str (Str.ofString "abcx")), some (.int way), some (.int (n : Int)), some (.str ⟨#[c]⟩)] ∧ H'' = H', ?_, ?_⟩
    · refine ⟨_, rfl, rfl, _, rfl, ite2 (fun e1 => ⟨_, rfl, _, _, rfl, rfl, _, rfl, _, rfl, zl, _, _, rfl, rfl, _, rfl, ite2 (fun e2 => ?_) (fun e2 => ⟨rfl, rfl⟩)⟩) (fun e1 => iteF ⟨rfl, rfl⟩)⟩
      have hn2 : n + 1 < l.length := by have := of_decide_eq_true e2; rw [S_len] at this; omega
      have gn2 : l[n + 1]? = some l[n + 1] := List.getElem?_eq_getElem hn2
      have a1 : atI (S l).cps.toList ((n : Int) + 1) = some l[n + 1] := atI_nat (j := n + 1) gn2
      have a0' : atI (S l).cps.toList (n : Int) = some l[n] := atI_nat gn
      have dl2 : (l.drop (n + 2)).length = l.length - (n + 2) := List.length_drop
      refine ⟨_, rfl, _, rfl, _, rfl, _, rfl, zl, _, rfl, _, rfl, _, _, rfl, rfl, _, _, _, rfl, rfl, zl, a1, _, _, rfl, rfl, szL (by rw [zt]; show n + 1 ≤ 100000; omega), _, rfl, _, rfl, _, _, _, rfl, rfl, zl, a0', _, _, rfl, rfl, ?_, _, rfl, _, rfl, _, _, rfl, rfl, _, rfl, _, rfl, zl, _, _, rfl, rfl, ?_, ?_⟩
      · rw [ct, S_add1, S_len, List.length_append, tl]
        exact szL (by show n + 1 + 1 ≤ 100000; omega)
      · rw [ct, cf2, S_add1, S_add1, S_len, S_len, List.length_append, List.length_append, tl, dl2]
        exact szL (by show n + 1 + 1 + (l.length - (n + 2)) ≤ 100000; omega)
      · rw [ct, cf2, S_add1, S_add1, S_add]
        refine q H' _ kk hd3 ?_ ?_
        · rw [List.length_append, List.length_append, List.length_append, tl, dl2]
          show n + 1 + 1 + (l.length - (n + 2)) ≤ 101
          omega
        · have e3 : l.drop (n + 1) = l[n + 1] :: l.drop (n + 2) := (List.getElem_cons_drop hn2).symm
          rw [er, e3, List.reverse_append, List.reverse_append, List.reverse_append, List.reverse_cons, List.append_assoc]
          refine Nat.le_trans (lev_pre _ _ _) ?_
          have := lev_swap l[n + 1] l[n] (l.take n).reverse (l.take n).reverse
          rw [lev_self] at this
          exact this
    rintro σ' H'' ⟨rfl, rfl⟩
    refine ⟨_, rfl, _, rfl, _, rfl, _, rfl, zl, _, rfl, _, _, rfl, rfl, szL (by rw [zt]; show n + 1 ≤ 100000; omega), _, rfl, _, rfl, _, _, rfl, rfl, _, rfl, _, rfl, zl, _, _, rfl, rfl, ?_, ?_⟩
    · rw [ct, cf1, S_add1, S_len, S_len, List.length_append, tl, dl1]
      exact szL (by show n + 1 + (l.length - (n + 1)) ≤ 100000; omega)
    · rw [ct, cf1, S_add1, S_add]
      refine q _ _ kk hd3 ?_ sub
      rw [List.length_append, List.length_append, tl, dl1]
      show n + 1 + (l.length - (n + 1)) ≤ 101
      omega
def spMade : Sp := fun vs H Q _ => ∃ (p : Addr) (l : List Nat), vs = [.ref p, .str (S l)] ∧ l.length ≤ 40 ∧ Deck H p ∧ ∀ H' t (l' : List Nat) (k : Nat), Kp p H H' → Deck H' p → l'.length ≤ 2 * l.length → lev l.reverse l'.reverse ≤ k → H' t = some (.tup [.str (S l'), .int (k : Nat)]) → Q (.ref t) H'
abbrev s__law_made_by : Stmt := topS 9
theorem sc__law_made_by : FnScope ["deck", "word", "found", "steps", "at", "turn", "way"] ["deck", "word"] (defScope s__law_made_by) := ⟨rfl, rfl, rfl, by decide +kernel, rfl, by decide +kernel, by decide +kernel⟩
theorem ok_made {f : Addr} {fd : FuncData} (F : Fun K "_law_made_by" "_law_made_by" s__law_made_by f fd) (T : Tx mg) (C__law_take : C8.Cal P w K mg base 1 "_law_take" spTake []) : FnOk P w K mg base CX0 2 f fd ["deck", "word"] spMade := by
  refine F.ok sc__law_made_by (fun vs H Q E h => ?_) (fun cdv A outer s H vs Q E hr h => ?_)
  · obtain ⟨p, l, rfl, _⟩ := h
    rfl
  · obtain ⟨p, l, rfl, hl, hd, q⟩ := h
    refine ⟨_, (pss_cons (ps_set (i := 2) sc__law_made_by.nd rfl (.inl rfl) pe_str)
    (pss_cons (ps_set (i := 3) sc__law_made_by.nd rfl (.inl rfl) pe_int)
    (pss_cons (ps_set (i := 4) sc__law_made_by.nd rfl (.inl rfl) pe_int)
    (pss_cons (ps_for PassesOwn.never rfl (pi_range1 rfl T.n_range (pa_cons (pe_callB call_len_str rfl T.n_len (by decide +kernel) (pa_cons (pv 1) pa_nil)) pa_nil)) (pg_name (i := 5) sc__law_made_by.nd rfl (.inl rfl))
      (pss_one (ps_if (pt_cmpR op_lt (pv 4) (pe_callB call_len_str rfl T.n_len (by decide +kernel) (pa_cons (pv 1) pa_nil)) (nomark _))
        (pss_cons (ps_set (i := 6) sc__law_made_by.nd rfl (.inl rfl) (C8.pe_c C__law_take hr (by omega) rfl (pa_cons (pv 0) (pa_cons pe_int pa_nil))))
        (pss_one (ps_if (PW.pt (pw_and (pt_cmpR op_eq (pv 6) pe_int (nomark _)) (pw_and1 (pt_cmpR op_lt (pe_op op_add (pv 4) pe_int) (pe_callB call_len_str rfl T.n_len (by decide +kernel) (pa_cons (pv 1) pa_nil)) (nomark _)))))
          (pss_cons (ps_set (i := 2) sc__law_made_by.nd rfl (.inl rfl) (pe_op op_add_str (pe_op op_add_str (pv 2) (pe_ix ix_str (pv 1) (pe_op op_add (pv 4) pe_int) (fun _ _ => rfl))) (pe_ix ix_str (pv 1) (pv 4) (fun _ _ => rfl))))
          (pss_cons (ps_set (i := 4) sc__law_made_by.nd rfl (.inl rfl) (pe_op op_add (pv 4) pe_int))
          (pss_one (ps_set (i := 3) sc__law_made_by.nd rfl (.inl rfl) (pe_op op_add (pv 3) pe_int)))))
          (pss_cons (ps_set (i := 2) sc__law_made_by.nd rfl (.inl rfl) (pe_op op_add_str (pv 2) (pe_ix ix_list (pe_lst (pa_cons (pe_op op_add_str pe_str (pe_ix ix_str (pv 1) (pv 4) (fun _ _ => rfl))) (pa_cons pe_str (pa_cons pe_str (pa_cons (pe_ix ix_str (pv 1) (pv 4) (fun _ _ => rfl)) pa_nil))))) (pe_callB (call_min2' rfl) rfl T.n_min (by decide +kernel) (pa_cons (pv 6) (pa_cons pe_int pa_nil))) (fun _ _ => rfl))))
          (pss_cons (ps_set (i := 4) sc__law_made_by.nd rfl (.inl rfl) (pe_op op_add (pv 4) pe_int))
          (pss_one (ps_set (i := 3) sc__law_made_by.nd rfl (.inl rfl) (pe_op op_add (pv 3) (pe_callTy call_int1 rfl T.n_int (by decide +kernel) (pa_cons (pe_cmpR op_lt (pv 6) pe_int (nomark _)) pa_nil))))))))))
        pss_nil)))
    (pss_one (ps_ret (pe_tup (pa_cons (pv 2) (pa_cons (pv 3) pa_nil))))))))), ?_⟩
    have zl : (S l).length ≤ sizeLine := szL (by rw [S_len]; omega)
    refine ⟨_, rfl, _, rfl, zl, _, rfl, by omega, by rw [S_len]; omega, ?_⟩
    rw [show ((S l).length : Int).toNat = l.length by rw [S_len]; omega]
    refine for_range (lo := 0) (n := l.length) (fun i σ H2 => ∃ (f : List Nat) (k n : Nat) (y5 y6 : Option V), σ = [some (.ref p), some (.str (S l)), some (.str (S f)), some (.int (k : Nat)), some (.int (n : Nat)), y5, y6] ∧ Kp p H H2 ∧ Deck H2 p ∧ (i ≤ n ∧ n ≤ l.length ∧ f.length ≤ 2 * n) ∧ lev (l.take n).reverse f.reverse ≤ k) ?_ ?_ ?_
    · exact ⟨[], 0, 0, _, _, by rw [show (S [] : Str) = Str.ofString "" by decide +kernel]; rfl, Kp.refl _ _, hd, ⟨by omega, by omega, by decide⟩, by rw [List.take_zero, lev_self]; exact Nat.le_refl _⟩
    · rintro i σ H2 hi ⟨f, k, n, y5, y6, rfl, k2, hd2, ⟨hin, hnl, hfl⟩, hlev⟩
      refine ⟨_, rfl, _, rfl, _, rfl, zl, _, _, rfl, rfl, _, rfl, ite2 (fun e => ?_) (fun e => ?_)⟩
      · have hn : n < l.length := by have := of_decide_eq_true e; rw [S_len] at this; omega
        have gn : l[n]? = some l[n] := List.getElem?_eq_getElem hn
        have a0 : atI (S l).cps.toList (n : Int) = some l[n] := atI_nat gn
        have tk1 : (l.take (n + 1)).reverse = l[n] :: (l.take n).reverse := take_rev gn
        refine ⟨_, rfl, p, 7, rfl, by decide, hd2, fun H3 way k3 hd3 w0 w1 => ?_⟩
        have kk := k2.trans k3
        have zf : (S f).length = f.length := S_len f
        have hy : Str.ofString "y" = S [121] := by decide +kernel
        have hz : Str.ofString "z" = S [122] := by decide +kernel
        have he : Str.ofString "" = S [] := by decide +kernel
        refine (fun els => ⟨_, rfl, rfl, _, rfl, ite2 (fun e1 => ⟨_, rfl, _, _, rfl, rfl, _, rfl, _, rfl, zl, _, _, rfl, rfl, _, rfl, ite2 (fun e2 => ?two) (fun e2 => els)⟩) (fun e1 => iteF els)⟩) ?els
        case two =>
          -- two letters exchanged
          have hn2 : n + 1 < l.length := by have := of_decide_eq_true e2; rw [S_len] at this; omega
          have gn2 : l[n + 1]? = some l[n + 1] := List.getElem?_eq_getElem hn2
          have a1 : atI (S l).cps.toList ((n : Int) + 1) = some l[n + 1] := atI_nat (j := n + 1) gn2
          have tk2 : (l.take (n + 2)).reverse = l[n + 1] :: l[n] :: (l.take n).reverse := by rw [take_rev gn2, tk1]
          refine ⟨_, rfl, _, rfl, _, rfl, _, _, rfl, rfl, _, _, _, rfl, rfl, zl, a1, _, _, rfl, rfl, szL (by rw [zf]; show f.length + 1 ≤ 100000; omega), _, rfl, _, rfl, _, _, _, rfl, rfl, zl, a0, _, _, rfl, rfl, ?_, _, rfl, _, _, rfl, rfl, _, rfl, _, _, rfl, rfl, ?_⟩
          · rw [S_add1, S_len, List.length_append]
            exact szL (by show f.length + 1 + 1 ≤ 100000; omega)
          · refine ⟨f ++ [l[n + 1]] ++ [l[n]], k + 1, n + 2, _, _, by rw [S_add1, S_add1]; rfl, kk, hd3, ⟨by omega, by omega, by rw [List.length_append, List.length_append]; show f.length + 1 + 1 ≤ _; omega⟩, ?_⟩
            rw [tk2, List.reverse_append, List.reverse_append]
            exact Nat.le_trans (lev_swap l[n + 1] l[n] (l.take n).reverse f.reverse) (Nat.add_le_add_right hlev 1)
        case els =>
          have hit : ∃ (seg : List Nat) (st : Nat), atI [V.str (Str.ofString "y" ++ ⟨#[l[n]]⟩), .str (Str.ofString ""), .str (Str.ofString "z"), .str ⟨#[l[n]]⟩] (min way 3) = some (.str (S seg)) ∧ (if decide (way < 3) = true then (1 : Int) else 0) = (st : Nat) ∧ seg.length ≤ 2 ∧ lev (l[n] :: (l.take n).reverse) (seg.reverse ++ f.reverse) ≤ k + st := by
            have c0 : way = 0 ∨ way = 1 ∨ way = 2 ∨ 3 ≤ way := by omega
            rcases c0 with rfl | rfl | rfl | h3
            · refine ⟨[121, l[n]], 1, by rw [hy, S_add1]; rfl, rfl, Nat.le_refl 2, ?_⟩
              have a := lev_sub l[n] l[n] (l.take n).reverse (121 :: f.reverse)
              have b := lev_ins 121 (l.take n).reverse f.reverse
              rw [if_pos rfl] at a
              show lev (l[n] :: (l.take n).reverse) (l[n] :: 121 :: f.reverse) ≤ k + 1
              omega
            · refine ⟨[], 1, by rw [he]; rfl, rfl, by decide, ?_⟩
              have a := lev_del l[n] (l.take n).reverse f.reverse
              show lev (l[n] :: (l.take n).reverse) f.reverse ≤ k + 1
              omega
            · refine ⟨[122], 1, by rw [hz]; rfl, rfl, by decide, ?_⟩
              have a := lev_sub l[n] 122 (l.take n).reverse f.reverse
              show lev (l[n] :: (l.take n).reverse) (122 :: f.reverse) ≤ k + 1
              refine Nat.le_trans a ?_
              split <;> omega
            · refine ⟨[l[n]], 0, by rw [Int.min_eq_right h3]; rfl, by rw [if_neg (by rw [decide_eq_false (by omega)]; exact Bool.false_ne_true)]; rfl, by show 1 ≤ 2; omega, ?_⟩
              have a := lev_sub l[n] l[n] (l.take n).reverse f.reverse
              rw [if_pos rfl] at a
              show lev (l[n] :: (l.take n).reverse) (l[n] :: f.reverse) ≤ k + 0
              omega
          obtain ⟨seg, st, h1, h2, h3, h4⟩ := hit
          refine ⟨_, rfl, _, rfl, _, rfl, _, _, _, rfl, rfl, zl, a0, _, _, rfl, rfl, by rw [hy, S_len]; exact szL (by show 1 + 1 ≤ 100000; omega), _, rfl, _, rfl, _, _, _, rfl, rfl, zl, a0, by show 4 ≤ sizeLine; decide, fun L nL => ?_⟩
          have hd4 : Deck (upd H3 L (.lst [V.str (Str.ofString "y" ++ ⟨#[l[n]]⟩), .str (Str.ofString ""), .str (Str.ofString "z"), .str ⟨#[l[n]]⟩])) p := by
            obtain ⟨ds, g1, g2⟩ := hd3
            exact ⟨ds, by rw [upd_ne (ne_of_none g1 nL)]; exact g1, g2⟩
          refine ⟨_, rfl, _, _, rfl, L, _, _, _, rfl, rfl, .inl (.inl upd_same), h1, _, _, rfl, rfl, by rw [S_len, S_len]; exact szL (by omega), ?_⟩
          refine ⟨_, rfl, _, _, rfl, rfl, _, rfl, _, rfl, _, _, rfl, rfl, .inr ⟨_, rfl, ?_⟩⟩
          rw [h2]
          refine ⟨_, _, rfl, rfl, f ++ seg, k + st, n + 1, _, _, by rw [S_add]; rfl, kk.trans (Kp.of (same_upd nL)), hd4, ⟨by omega, by omega, by rw [List.length_append]; omega⟩, ?_⟩
          rw [tk1, List.reverse_append]
          exact h4
      · exact ⟨f, k, n, _, _, rfl, k2, hd2, ⟨by have := fun z => e (decide_eq_true z); rw [S_len] at this; have := Int.not_lt.mp this; omega, hnl, hfl⟩, hlev⟩
    · rintro σ H2 ⟨f, k, n, y5, y6, rfl, k2, hd2, ⟨hin, hnl, hfl⟩, hlev⟩
      have e : n = l.length := by omega
      subst e
      rw [List.take_length] at hlev
      refine ⟨_, rfl, _, rfl, by show 2 ≤ sizeLine; decide, fun t nt => q _ t f k (k2.trans (Kp.of (same_upd nt))) ?_ hfl hlev upd_same⟩
      obtain ⟨ds, h1, h2⟩ := hd2
      exact ⟨ds, by rw [upd_ne (ne_of_none h1 nt)]; exact h1, h2⟩
end
end K41
set_option Elab.async false
set_option linter.all false
set_option maxRecDepth 100000
set_option maxHeartbeats 4000000
namespace K41
open PySem PySem.Spec PyProof.Rows L2 Tw Lv
section
variable {P : Program} {w : World} {K : PySem.W.Frag} {mg : Str → Option Value} {base : Heap}
/-! ### the law -/
theorem Deck.same {H H' : Hp} {p : Addr} (h : Deck H p) (s : Same H H') : Deck H' p := let ⟨ds, a, b⟩ := h; ⟨ds, s _ _ a, b⟩
theorem Deck.kp {H H' : Hp} {p d : Addr} (h : Deck H p) (k : Kp d H H') (n : p ≠ d) : Deck H' p := let ⟨ds, a, b⟩ := h; ⟨ds, k _ _ a n, b⟩
theorem Deck.ne {H : Hp} {p d : Addr} (h : Deck H p) (n : H d = none) : p ≠ d := let ⟨_, a, _⟩ := h; ne_of_none a n
theorem cal_steps {A B : List Nat} (hA : A.length ≤ 100) (hB : B.length ≤ 100) {f : Addr} {fd : FuncData} (F : Fun K "_law_steps" "_law_steps" s__law_steps f fd) (T : Tx mg) (hm : mg "_law_steps" = some (.ref f)) (b : Binds K fd ["one", "two", "known"] []) : ∀ n, FnOk P w K mg base CX0 n f fd ["one", "two", "known"] (spSteps A B n)
  | 0 => ⟨fun _ _ _ _ h => (by obtain ⟨_, _, _, _, _, _, _, e, _⟩ := h; omega), fun _ _ _ _ _ _ _ _ _ _ _ _ _ h => (by obtain ⟨_, _, _, _, _, _, _, e, _⟩ := h; omega)⟩
  | n + 1 => ok_steps hA hB F T ⟨f, fd, ["one", "two", "known"], [], cal_steps hA hB F T hm b n, hm, F.kp, b, .nil⟩
/-- any two words, nothing known -/
def spSteps0 : Sp := fun vs H Q _ => ∃ (A B : List Nat) (d : Addr), vs = [.str (S A), .str (S B), .ref d] ∧ A.length ≤ 14 ∧ B.length ≤ 14 ∧ H d = some (.dT []) ∧ ∀ H', Kp d H H' → Q (.int (lev A.reverse B.reverse : Nat)) H'
theorem cal_steps0 {f : Addr} {fd : FuncData} (F : Fun K "_law_steps" "_law_steps" s__law_steps f fd) (T : Tx mg) (hm : mg "_law_steps" = some (.ref f)) (b : Binds K fd ["one", "two", "known"] []) : C8.Cal P w K mg base 40 "_law_steps" spSteps0 [] := by
  have big : ∀ A B : List Nat, A.length ≤ 14 → B.length ≤ 14 → ∀ vs H Q E, (∃ (d : Addr), vs = [.str (S A), .str (S B), .ref d] ∧ H d = some (.dT []) ∧ ∀ H', Kp d H H' → Q (.int (lev A.reverse B.reverse : Nat)) H') → spSteps A B 40 vs H Q E := fun A B hA hB vs H Q E h => by
    obtain ⟨d, rfl, hd, q⟩ := h
    refine ⟨A.length, B.length, d, [], by rw [List.take_length, List.take_length], Nat.le_refl _, Nat.le_refl _, by omega, hd, Memo.nil A B, fun H' kvs' k _ _ => ?_⟩
    have := q H' k
    unfold levAB
    rw [List.take_length, List.take_length]
    exact this
  refine ⟨f, fd, ["one", "two", "known"], [], ⟨fun vs H Q E h => ?_, fun Ar outer s H args us vs Q E hr he hb hv h => ?_⟩, hm, F.kp, b, .nil⟩
  · obtain ⟨A, B, d, rfl, _⟩ := h
    rfl
  · obtain ⟨A, B, d, e, hA, hB, hd, q⟩ := h
    exact (cal_steps (A := A) (B := B) (by omega) (by omega) F T hm b 40).run Ar outer s H args us vs Q E hr he hb hv (big A B hA hB vs H Q E ⟨d, e, hd, q⟩)
def spLaw (K : PySem.W.Frag) : Sp := fun vs H Q _ => ∃ (a : Addr) (ns : List Int), vs = [.ref a] ∧ SqL K H a (ns.map V.int) ∧ ns.length ≤ 63 ∧ ∀ H', Q (.bl true) H'
abbrev s_law : Stmt := topS 10
theorem sc_law : FnScope ["script", "deck", "turn", "one", "two", "due", "told", "made", "steps", "slipped"] ["script"] (defScope s_law) := ⟨rfl, rfl, rfl, by decide +kernel, rfl, by decide +kernel, by decide +kernel⟩
theorem ok_law {f : Addr} {fd : FuncData} (F : Fun K "law" "law" s_law f fd) (T : Tx mg) (C__law_deck : C8.Cal P w K mg base 1 "_law_deck" (spDeck K) []) (C__law_word : C8.Cal P w K mg base 2 "_law_word" spWord []) (C__law_steps : C8.Cal P w K mg base 40 "_law_steps" spSteps0 []) (C_distance : C8.Cal P w K mg base 1 "distance" spDistance [])
    (C__law_plain : C8.Cal P w K mg base 1 "_law_plain" (spPlain K 0) []) (C__law_made_by : C8.Cal P w K mg base 2 "_law_made_by" spMade []) (C__law_slip : C8.Cal P w K mg base 2 "_law_slip" spSlip []) : FnOk P w K mg base CX0 41 f fd ["script"] (spLaw K) := by
  refine F.ok sc_law (fun vs H Q E h => ?_) (fun cdv A outer s H vs Q E hr h => ?_)
  · obtain ⟨a, ns, rfl, _⟩ := h
    rfl
  · obtain ⟨a, ns, rfl, hS, h63, q⟩ := h
    refine ⟨_, (pss_cons (ps_set (i := 1) sc_law.nd rfl (.inl rfl) (C8.pe_c C__law_deck hr (by omega) rfl (pa_cons (pv 0) (pa_cons pe_int (pa_cons pe_int pa_nil)))))
    (pss_cons (ps_for PassesOwn.never rfl (pi_range1 rfl T.n_range (pa_cons pe_int pa_nil)) (pg_name (i := 2) sc_law.nd rfl (.inl rfl))
      (pss_cons (ps_par (i := 3) (j := 4) rfl sc_law.nd rfl rfl (by decide) rfl rfl (pa_cons (C8.pe_c C__law_word hr (by omega) rfl (pa_cons (pv 1) (pa_cons pe_int pa_nil))) (pa_cons (C8.pe_c C__law_word hr (by omega) rfl (pa_cons (pv 1) (pa_cons pe_int pa_nil))) pa_nil)) rfl)
      (pss_cons (ps_set (i := 5) sc_law.nd rfl (.inl rfl) (C8.pe_c C__law_steps hr (by omega) rfl (pa_cons (pv 3) (pa_cons (pv 4) (pa_cons pe_dnewT pa_nil)))))
      (pss_cons (ps_set (i := 6) sc_law.nd rfl (.inl rfl) (C8.pe_c C_distance hr (by omega) rfl (pa_cons (pv 3) (pa_cons (pv 4) pa_nil))))
      (C8.pss_cut (ps_if (PW.pt (pw_or (pt_cmpR (op_neD hr.units) (C8.pe_c C__law_plain hr (by omega) rfl (pa_cons (pv 6) pa_nil)) (C8.pe_c C__law_plain hr (by omega) rfl (pa_cons (pv 5) pa_nil)) (nomark _)) (pw_or (pt_cmpR op_ne (C8.pe_c C_distance hr (by omega) rfl (pa_cons (pv 4) (pa_cons (pv 3) pa_nil))) (pv 5) (nomark _)) (pw_or1 (pt_cmpR op_lt (pv 6) (pe_callB call_abs rfl T.n_abs (by decide +kernel) (pa_cons (pe_op op_sub (pe_callB call_len_str rfl T.n_len (by decide +kernel) (pa_cons (pv 3) pa_nil)) (pe_callB call_len_str rfl T.n_len (by decide +kernel) (pa_cons (pv 4) pa_nil))) pa_nil)) (nomark _))))))
        (pss_one (ps_ret pe_bl))
        pss_nil)
      (C8.pss_cut (ps_if (PW.pt (pw_or (pt_cmpR op_ne (pe_cmpR op_eq (pv 6) pe_int (nomark _)) (pe_cmpR op_eq (pv 3) (pv 4) (nomark _)) (nomark _)) (pw_or1 (pt_cmpR op_ne (C8.pe_c C_distance hr (by omega) rfl (pa_cons (pv 3) (pa_cons (pv 3) pa_nil))) pe_int (nomark _)))))
        (pss_one (ps_ret pe_bl))
        pss_nil)
      (pss_cons (ps_asg (C8.pe_c C__law_made_by hr (by omega) rfl (pa_cons (pv 1) (pa_cons (pv 3) pa_nil))) (pg_tup rfl (pgs_cons (pg_name (i := 7) sc_law.nd rfl (.inl rfl)) (pgs_cons (pg_name (i := 8) sc_law.nd rfl (.inl rfl)) pgs_nil))))
      (C8.pss_cut (ps_if (PW.pt (pw_or (pt_cmpR op_gt (C8.pe_c C_distance hr (by omega) rfl (pa_cons (pv 3) (pa_cons (pv 7) pa_nil))) (pv 8) (nomark _)) (pw_or1 (pt_cmpR (op_neD hr.units) (C8.pe_c C__law_plain hr (by omega) rfl (pa_cons (C8.pe_c C_distance hr (by omega) rfl (pa_cons (pv 3) (pa_cons (pv 7) pa_nil))) pa_nil)) (C8.pe_c C__law_plain hr (by omega) rfl (pa_cons (C8.pe_c C__law_steps hr (by omega) rfl (pa_cons (pv 3) (pa_cons (pv 7) (pa_cons pe_dnewT pa_nil)))) pa_nil)) (nomark _)))))
        (pss_one (ps_ret pe_bl))
        pss_nil)
      (pss_cons (ps_set (i := 9) sc_law.nd rfl (.inl rfl) (C8.pe_c C__law_slip hr (by omega) rfl (pa_cons (pv 1) (pa_cons (pe_op op_add_str (pv 3) pe_str) (pa_cons pe_str pa_nil)))))
      (pss_one (ps_if (pt_cmpR op_gt (C8.pe_c C_distance hr (by omega) rfl (pa_cons (pe_op op_add_str (pv 3) pe_str) (pa_cons (pv 9) pa_nil))) pe_int (nomark _))
        (pss_one (ps_ret pe_bl))
        pss_nil)))))))))))
    (pss_cons (ps_if (pt_cmpR (op_neD hr.units) (pe_lst (pa_cons (C8.pe_c C_distance hr (by omega) rfl (pa_cons pe_str (pa_cons pe_str pa_nil))) (pa_cons (C8.pe_c C_distance hr (by omega) rfl (pa_cons pe_str (pa_cons pe_str pa_nil))) (pa_cons (C8.pe_c C_distance hr (by omega) rfl (pa_cons pe_str (pa_cons pe_str pa_nil))) (pa_cons (C8.pe_c C_distance hr (by omega) rfl (pa_cons pe_str (pa_cons pe_str pa_nil))) pa_nil))))) (pe_lst (pa_cons pe_int (pa_cons pe_int (pa_cons pe_int (pa_cons pe_int pa_nil))))) (nomark _))
      (pss_one (ps_ret pe_bl))
      pss_nil)
    (pss_one (ps_ret (pe_cmpR op_eq (C8.pe_c C_distance hr (by omega) rfl (pa_cons (pe_op op_mul_str pe_str pe_int) (pa_cons (pe_op op_mul_str pe_str pe_int) pa_nil))) pe_int (nomark _))))))), ?_⟩
    have pk : ∀ (n : Nat), SeqAt.shaped (plainD (.int n)) = true := fun n => rfl
    have eqp : ∀ (n : Nat), PyData.eqv (plainD (.int n)) (plainD (.int n)) = true := fun n => by
      first | exact SeqAt.eqv_refl _ (pk n) | exact SeqAt.eqv_refl (pk n)
    -- deck
    refine ⟨_, rfl, a, ns, 60, 14, rfl, hS, h63, by omega, by omega, by omega, fun H1 p s1 np hd1 => ?_⟩
    refine ⟨4, rfl, by decide, by decide, for_range (lo := 0) (n := 4) (fun i σ H2 => ∃ (y2 y3 y4 y5 y6 y7 y8 y9 : Option V), σ = [some (.ref a), some (.ref p), y2, y3, y4, y5, y6, y7, y8, y9] ∧ Deck H2 p) ?_ ?_ ?_⟩
    · exact ⟨_, _, _, _, _, _, _, _, rfl, hd1⟩
    · rintro i σ H2 hi ⟨y2, y3, y4, y5, y6, y7, y8, y9, rfl, hd2⟩
      -- one, two
      refine ⟨_, rfl, p, 8, rfl, by decide, by decide, hd2, fun H3 l1 k3 hd3 n1 => ⟨_, rfl, p, 8, rfl, by decide, by decide, hd3, fun H4 l2 k4 hd4 n2 => ⟨_, _, rfl, ?_⟩⟩⟩
      -- due
      refine ⟨_, rfl, _, rfl, fun d nd => ⟨l1, l2, d, rfl, by omega, by omega, upd_same, fun H5 k5 => ?_⟩⟩
      have hd5 : Deck H5 p := (hd4.same (same_upd nd)).kp k5 (hd4.ne nd)
      -- told
      refine ⟨_, rfl, _, rfl, l1, l2, rfl, by omega, by omega, fun H6 s6 => ?_⟩
      have hd6 := hd5.same s6
      refine ⟨fun σ' H' => σ' = [some (.ref a), some (.ref p), some (.int (0 + (i : Nat))), some (.str (S l1)), some (.str (S l2)), some (.int (lev l1.reverse l2.reverse : Nat)), some (.int (lev l1.reverse l2.reverse : Nat)), y7, y8, y9] ∧ Deck H' p, ?_, ?_⟩
      · refine ⟨_, rfl, .int _, .int (lev l1.reverse l2.reverse : Nat), rfl, .int _, trivial, fun H7 v7 s7 n7 => ⟨_, rfl, .int _, .int (lev l1.reverse l2.reverse : Nat), rfl, .int _, trivial, fun H8 v8 s8 n8 => ⟨_, _, dp_mono s8 _ _ n7.dp, n8.dp, pk _, pk _, _, rfl, ?_⟩⟩⟩
        rw [eqp]
        refine iteF ?_
        -- distance(two, one) != due
        refine ⟨_, rfl, _, rfl, l2, l1, rfl, by omega, by omega, fun H9 s9 => ⟨_, rfl, rfl, _, rfl, ?_⟩⟩
        rw [lev_comm l2.reverse l1.reverse]
        refine iteNS rfl (?_)
        -- told < abs(len(one) - len(two))
        refine ⟨_, rfl, _, rfl, _, rfl, szL (by rw [S_len]; omega), _, rfl, _, rfl, szL (by rw [S_len]; omega), _, _, rfl, rfl, _, rfl, _, _, rfl, rfl, _, rfl, ite2 (fun e => ?_) (fun e => ⟨rfl, ?_⟩)⟩
        · have e' := of_decide_eq_true e
          rw [S_len, S_len] at e'
          have b1 := lev_len l1.reverse l2.reverse
          have b2 := lev_len' l1.reverse l2.reverse
          rw [List.length_reverse, List.length_reverse] at b1 b2
          exfalso
          split at e' <;> omega
        · exact ((hd6.same s7).same s8).same s9
      · rintro σ' H7 ⟨rfl, hd7⟩
        -- (told == 0) != (one == two) or distance(one, one) != 0
        refine ⟨fun σ' H' => σ' = [some (.ref a), some (.ref p), some (.int (0 + (i : Nat))), some (.str (S l1)), some (.str (S l2)), some (.int (lev l1.reverse l2.reverse : Nat)), some (.int (lev l1.reverse l2.reverse : Nat)), y7, y8, y9] ∧ Deck H' p, ?_, ?_⟩
        · refine ⟨_, rfl, rfl, _, rfl, _, rfl, rfl, rfl, _, rfl, ?_⟩
          have ez : V.bl (decide (V.int (lev l1.reverse l2.reverse : Nat) = V.int 0)) = V.bl (decide (V.str (S l1) = V.str (S l2))) := by
            congr 1
            have z := lev_zero l1.reverse l2.reverse
            by_cases h : l1 = l2
            · subst h
              rw [lev_self]
              simp
            · have h1 : ¬ V.str (S l1) = V.str (S l2) := fun q => h (S_inj.mp (V.str.inj q))
              have h2 : ¬ V.int (lev l1.reverse l2.reverse : Nat) = V.int 0 := fun q => h (by
                have := V.int.inj q
                have z' := z.mp (by omega)
                exact List.reverse_inj.mp z')
              rw [decide_eq_false h1, decide_eq_false h2]
          refine iteNS ez ?_
          refine ⟨_, rfl, _, rfl, l1, l1, rfl, by omega, by omega, fun H9 s9 => ⟨rfl, _, rfl, ?_⟩⟩
          rw [lev_self]
          exact iteNS rfl ⟨rfl, hd7.same s9⟩
        · rintro σ' H8 ⟨rfl, hd8⟩
          -- made, steps = _law_made_by(deck, one)
          refine ⟨_, rfl, _, rfl, p, l1, rfl, by omega, hd8, fun H9 t l3 k k9 hd9 n3 lv ht => ⟨t, _, rfl, .inl (.inl ht), rfl, _, _, rfl, _, _, rfl, rfl, ?_⟩⟩
          refine ⟨fun σ' H' => σ' = [some (.ref a), some (.ref p), some (.int (0 + (i : Nat))), some (.str (S l1)), some (.str (S l2)), some (.int (lev l1.reverse l2.reverse : Nat)), some (.int (lev l1.reverse l2.reverse : Nat)), some (.str (S l3)), some (.int (k : Nat)), y9] ∧ Deck H' p, ?_, ?_⟩
          · refine ⟨_, rfl, _, rfl, l1, l3, rfl, by omega, by omega, fun H10 s10 => ⟨_, rfl, _, _, rfl, rfl, _, rfl, ite2 (fun e => ?_) (fun _ => ?_)⟩⟩
            · have := of_decide_eq_true e
              omega
            · refine ⟨_, rfl, _, rfl, l1, l3, rfl, by omega, by omega, fun H11 s11 => ⟨.int _, .int (lev l1.reverse l3.reverse : Nat), rfl, .int _, trivial, fun H12 v12 s12 n12 => ?_⟩⟩
              refine ⟨_, rfl, _, rfl, fun d nd => ⟨l1, l3, d, rfl, by omega, by omega, upd_same, fun H13 k13 => ?_⟩⟩
              have hd12 := (((hd9.same s10).same s11).same s12)
              have hd13 : Deck H13 p := (hd12.same (same_upd nd)).kp k13 (hd12.ne nd)
              refine ⟨.int _, .int (lev l1.reverse l3.reverse : Nat), rfl, .int _, trivial, fun H14 v14 s14 n14 => ⟨plainD (.int ((lev l1.reverse l3.reverse : Nat) : Int)), plainD (.int ((lev l1.reverse l3.reverse : Nat) : Int)), ?_, n14.dp, pk _, pk _, _, rfl, ?_⟩⟩
              · refine n12 H14 fun b o e n0 => ?_
                exact s14 b o (k13 b o (by rw [upd_ne (ne_of_none e nd)]; exact e) (ne_of_none e nd))
              · rw [eqp]
                exact ⟨rfl, hd13.same s14⟩
          · rintro σ' H10 ⟨rfl, hd10⟩
            -- slipped
            have hq : Str.ofString "q" = S [113] := by decide +kernel
            have eq1 : S l1 ++ Str.ofString "q" = S (l1 ++ [113]) := by rw [hq, S_add]
            have zq : (S l1).length + (Str.ofString "q").length ≤ sizeLine := by
              rw [hq, S_len, S_len]
              exact szL (by show l1.length + 1 ≤ 100000; omega)
            refine ⟨_, rfl, _, rfl, _, _, rfl, rfl, zq, p, l1 ++ [113], by rw [eq1]; rfl, by simp, by rw [List.length_append]; show l1.length + 1 ≤ 100; omega, hd10, fun H11 l4 k11 hd11 n4 lv4 => ?_⟩
            refine ⟨_, rfl, _, _, rfl, rfl, zq, _, rfl, l1 ++ [113], l4, by rw [eq1]; rfl, by rw [List.length_append]; show l1.length + 1 ≤ 1000; omega, by omega, fun H12 s12 => ⟨_, _, rfl, rfl, _, rfl, ite2 (fun e => ?_) (fun _ => ⟨_, _, _, _, _, _, _, _, rfl, hd11.same s12⟩)⟩⟩
            have := of_decide_eq_true e
            omega
    · -- the last rows
      rintro σ H2 ⟨y2, y3, y4, y5, y6, y7, y8, y9, rfl, hd2⟩
      have e1 : Str.ofString "ab" = S [97, 98] := by decide +kernel
      have e2 : Str.ofString "ba" = S [98, 97] := by decide +kernel
      have e3 : Str.ofString "ca" = S [99, 97] := by decide +kernel
      have e4 : Str.ofString "abc" = S [97, 98, 99] := by decide +kernel
      have e5 : Str.ofString "" = S [] := by decide +kernel
      have e6 : Str.ofString "abcd" = S [97, 98, 99, 100] := by decide +kernel
      have e7 : Str.ofString "badc" = S [98, 97, 100, 99] := by decide +kernel
      have e8 : Str.ofString "a" = S [97] := by decide +kernel
      have e9 : Str.ofString "b" = S [98] := by decide +kernel
      have d1 : lev [97, 98].reverse [98, 97].reverse = 1 := by simp [lev]
      have d2 : lev [99, 97].reverse [97, 98, 99].reverse = 3 := by simp [lev]
      have d3 : lev [].reverse [97, 98, 99].reverse = 3 := by simp [lev]
      have d4 : lev [97, 98, 99, 100].reverse [98, 97, 100, 99].reverse = 2 := by simp [lev]
      refine ⟨[97, 98], [98, 97], by rw [e1, e2]; rfl, by decide, by decide, fun H3 s3 => ⟨[99, 97], [97, 98, 99], by rw [e3, e4]; rfl, by decide, by decide, fun H4 s4 => ⟨[], [97, 98, 99], by rw [e5, e4]; rfl, by decide, by decide, fun H5 s5 => ⟨[97, 98, 99, 100], [98, 97, 100, 99], by rw [e6, e7]; rfl, by decide, by decide, fun H6 s6 => ?_⟩⟩⟩⟩
      refine ⟨by show 4 ≤ sizeLine; decide, fun L nL => ⟨by show 4 ≤ sizeLine; decide, fun L2 nL2 => ?_⟩⟩
      refine ⟨.list [.int 1, .int 3, .int 3, .int 2], .list [.int 1, .int 3, .int 3, .int 2], .lst (.inl (.inl (same_upd nL2 _ _ upd_same))) ?_, .lst (.inl (.inl upd_same)) (.cons (.int _) (.cons (.int _) (.cons (.int _) (.cons (.int _) .nil)))), rfl, rfl, _, rfl, ?_⟩
      · rw [d1, d2, d3, d4]
        exact .cons (.int _) (.cons (.int _) (.cons (.int _) (.cons (.int _) .nil)))
      · refine iteF ?_
        refine ⟨97, 12, by rw [e8], rfl, by decide, by decide, 98, 12, by rw [e9], rfl, by decide, by decide, List.replicate 12 97, List.replicate 12 98, rfl, by decide, by decide, fun H7 s7 => ⟨rfl, ?_⟩⟩
        rw [List.reverse_replicate, List.reverse_replicate, lev_apart 97 98 (by decide) 12]
        exact q _
end
end K41
set_option Elab.async false
set_option linter.all false
set_option maxRecDepth 100000
set_option maxHeartbeats 4000000
namespace K41
open PySem PySem.Spec PyProof.Rows L2 Tw Lv
section
variable {P : Program} {w : World} {K : PySem.W.Frag} {mg : Str → Option Value} {base : Heap}
theorem main {f_distance f__law_deck f__law_take f__law_plain f__law_steps f__law_slip f__law_word f__law_made_by f_law : Addr} {d_distance d__law_deck d__law_take d__law_plain d__law_steps d__law_slip d__law_word d__law_made_by d_law : FuncData}
    (F_distance : Fun K "distance" "distance" s_distance f_distance d_distance) (b_distance : Binds K d_distance ["one", "two"] []) (m_distance : mg "distance" = some (.ref f_distance))
    (F__law_deck : Fun K "_law_deck" "_law_deck" s__law_deck f__law_deck d__law_deck) (b__law_deck : Binds K d__law_deck ["script", "cells", "each"] []) (m__law_deck : mg "_law_deck" = some (.ref f__law_deck))
    (F__law_take : Fun K "_law_take" "_law_take" s__law_take f__law_take d__law_take) (b__law_take : Binds K d__law_take ["deck", "many"] []) (m__law_take : mg "_law_take" = some (.ref f__law_take))
    (F__law_plain : Fun K "_law_plain" "_law_plain" s__law_plain f__law_plain d__law_plain) (b__law_plain : Binds K d__law_plain ["value"] []) (m__law_plain : mg "_law_plain" = some (.ref f__law_plain))
    (F__law_steps : Fun K "_law_steps" "_law_steps" s__law_steps f__law_steps d__law_steps) (b__law_steps : Binds K d__law_steps ["one", "two", "known"] []) (m__law_steps : mg "_law_steps" = some (.ref f__law_steps))
    (F__law_slip : Fun K "_law_slip" "_law_slip" s__law_slip f__law_slip d__law_slip) (b__law_slip : Binds K d__law_slip ["deck", "word", "letters"] []) (m__law_slip : mg "_law_slip" = some (.ref f__law_slip))
    (F__law_word : Fun K "_law_word" "_law_word" s__law_word f__law_word d__law_word) (b__law_word : Binds K d__law_word ["deck", "most"] []) (m__law_word : mg "_law_word" = some (.ref f__law_word))
    (F__law_made_by : Fun K "_law_made_by" "_law_made_by" s__law_made_by f__law_made_by d__law_made_by) (b__law_made_by : Binds K d__law_made_by ["deck", "word"] []) (m__law_made_by : mg "_law_made_by" = some (.ref f__law_made_by))
    (F_law : Fun K "law" "law" s_law f_law d_law) (T : Tx mg) : FnOk P w K mg base CX0 41 f_law d_law ["script"] (spLaw K) := by
  have C_take : C8.Cal P w K mg base 1 "_law_take" spTake [] := ⟨_, _, _, _, ok_take F__law_take T, m__law_take, F__law_take.kp, b__law_take, .nil⟩
  have C_plain : C8.Cal P w K mg base 1 "_law_plain" (spPlain K 0) [] := ⟨_, _, _, _, ok_plain F__law_plain T (cal_plain F__law_plain T m__law_plain b__law_plain 0), m__law_plain, F__law_plain.kp, b__law_plain, .nil⟩
  exact ok_law F_law T ⟨_, _, _, _, ok_deck F__law_deck T, m__law_deck, F__law_deck.kp, b__law_deck, .nil⟩ ⟨_, _, _, _, ok_word F__law_word T C_take, m__law_word, F__law_word.kp, b__law_word, .nil⟩
    (cal_steps0 F__law_steps T m__law_steps b__law_steps) ⟨_, _, _, _, cal_distance F_distance T, m_distance, F_distance.kp, b_distance, .nil⟩ C_plain
    ⟨_, _, _, _, ok_made F__law_made_by T C_take, m__law_made_by, F__law_made_by.kp, b__law_made_by, .nil⟩ ⟨_, _, _, _, ok_slip F__law_slip T C_take, m__law_slip, F__law_slip.kp, b__law_slip, .nil⟩
end
theorem all_mk {l : PySem.W.OpenLaw} {w : World} {K : PySem.W.Frag} {h : Heap} {mg : Str → Option Value} {fa f0 f1 f2 f3 f4 f5 f6 f7 f8 : Addr} (X : K.In h) (G : h.Ns mainGlobals mg) (hfa : mg "law" = some (.ref fa))
    {od0 an0 : Option Addr} {sl0 : Array (Option Value)} {oc0 kV0 dc0 pm0 cd0 ct0 : Value}
    {od1 an1 : Option Addr} {sl1 : Array (Option Value)} {oc1 kV1 dc1 pm1 cd1 ct1 : Value}
    {od2 an2 : Option Addr} {sl2 : Array (Option Value)} {oc2 kV2 dc2 pm2 cd2 ct2 : Value}
    {od3 an3 : Option Addr} {sl3 : Array (Option Value)} {oc3 kV3 dc3 pm3 cd3 ct3 : Value}
    {od4 an4 : Option Addr} {sl4 : Array (Option Value)} {oc4 kV4 dc4 pm4 cd4 ct4 : Value}
    {od5 an5 : Option Addr} {sl5 : Array (Option Value)} {oc5 kV5 dc5 pm5 cd5 ct5 : Value}
    {od6 an6 : Option Addr} {sl6 : Array (Option Value)} {oc6 kV6 dc6 pm6 cd6 ct6 : Value}
    {od7 an7 : Option Addr} {sl7 : Array (Option Value)} {oc7 kV7 dc7 pm7 cd7 ct7 : Value}
    {od8 an8 : Option Addr} {sl8 : Array (Option Value)} {oc8 kV8 dc8 pm8 cd8 ct8 : Value}
    (a0 : PySem.W.nsIn K mainGlobals "distance" = some (some (.ref f0))) (l0 : K.lookup f0 = some ⟨oc0, od0, .func (PySem.W.fnOf "distance" "distance" (defArgs s_distance) (defBody s_distance) (defScope s_distance) .none kV0 dc0 pm0 an0 cd0 ct0), sl0⟩) (c0 : PySem.W.codeIn K cd0 "distance" = true) (k0 : PySem.W.keepIn K (.ref f0) = true)
    (a1 : PySem.W.nsIn K mainGlobals "_law_deck" = some (some (.ref f1))) (l1 : K.lookup f1 = some ⟨oc1, od1, .func (PySem.W.fnOf "_law_deck" "_law_deck" (defArgs s__law_deck) (defBody s__law_deck) (defScope s__law_deck) .none kV1 dc1 pm1 an1 cd1 ct1), sl1⟩) (c1 : PySem.W.codeIn K cd1 "_law_deck" = true) (k1 : PySem.W.keepIn K (.ref f1) = true)
    (a2 : PySem.W.nsIn K mainGlobals "_law_take" = some (some (.ref f2))) (l2 : K.lookup f2 = some ⟨oc2, od2, .func (PySem.W.fnOf "_law_take" "_law_take" (defArgs s__law_take) (defBody s__law_take) (defScope s__law_take) .none kV2 dc2 pm2 an2 cd2 ct2), sl2⟩) (c2 : PySem.W.codeIn K cd2 "_law_take" = true) (k2 : PySem.W.keepIn K (.ref f2) = true)
    (a3 : PySem.W.nsIn K mainGlobals "_law_plain" = some (some (.ref f3))) (l3 : K.lookup f3 = some ⟨oc3, od3, .func (PySem.W.fnOf "_law_plain" "_law_plain" (defArgs s__law_plain) (defBody s__law_plain) (defScope s__law_plain) .none kV3 dc3 pm3 an3 cd3 ct3), sl3⟩) (c3 : PySem.W.codeIn K cd3 "_law_plain" = true) (k3 : PySem.W.keepIn K (.ref f3) = true)
    (a4 : PySem.W.nsIn K mainGlobals "_law_steps" = some (some (.ref f4))) (l4 : K.lookup f4 = some ⟨oc4, od4, .func (PySem.W.fnOf "_law_steps" "_law_steps" (defArgs s__law_steps) (defBody s__law_steps) (defScope s__law_steps) .none kV4 dc4 pm4 an4 cd4 ct4), sl4⟩) (c4 : PySem.W.codeIn K cd4 "_law_steps" = true) (k4 : PySem.W.keepIn K (.ref f4) = true)
    (a5 : PySem.W.nsIn K mainGlobals "_law_slip" = some (some (.ref f5))) (l5 : K.lookup f5 = some ⟨oc5, od5, .func (PySem.W.fnOf "_law_slip" "_law_slip" (defArgs s__law_slip) (defBody s__law_slip) (defScope s__law_slip) .none kV5 dc5 pm5 an5 cd5 ct5), sl5⟩) (c5 : PySem.W.codeIn K cd5 "_law_slip" = true) (k5 : PySem.W.keepIn K (.ref f5) = true)
    (a6 : PySem.W.nsIn K mainGlobals "_law_word" = some (some (.ref f6))) (l6 : K.lookup f6 = some ⟨oc6, od6, .func (PySem.W.fnOf "_law_word" "_law_word" (defArgs s__law_word) (defBody s__law_word) (defScope s__law_word) .none kV6 dc6 pm6 an6 cd6 ct6), sl6⟩) (c6 : PySem.W.codeIn K cd6 "_law_word" = true) (k6 : PySem.W.keepIn K (.ref f6) = true)
    (a7 : PySem.W.nsIn K mainGlobals "_law_made_by" = some (some (.ref f7))) (l7 : K.lookup f7 = some ⟨oc7, od7, .func (PySem.W.fnOf "_law_made_by" "_law_made_by" (defArgs s__law_made_by) (defBody s__law_made_by) (defScope s__law_made_by) .none kV7 dc7 pm7 an7 cd7 ct7), sl7⟩) (c7 : PySem.W.codeIn K cd7 "_law_made_by" = true) (k7 : PySem.W.keepIn K (.ref f7) = true)
    (a8 : PySem.W.nsIn K mainGlobals "law" = some (some (.ref f8))) (l8 : K.lookup f8 = some ⟨oc8, od8, .func (PySem.W.fnOf "law" "law" (defArgs s_law) (defBody s_law) (defScope s_law) .none kV8 dc8 pm8 an8 cd8 ct8), sl8⟩) (c8 : PySem.W.codeIn K cd8 "law" = true) (k8 : PySem.W.keepIn K (.ref f8) = true)
    (z_len : PySem.W.nsIn K mainGlobals "len" = some none)
    (z_range : PySem.W.nsIn K mainGlobals "range" = some none)
    (z_list : PySem.W.nsIn K mainGlobals "list" = some none)
    (z_tuple : PySem.W.nsIn K mainGlobals "tuple" = some none)
    (z_int : PySem.W.nsIn K mainGlobals "int" = some none)
    (z_bool : PySem.W.nsIn K mainGlobals "bool" = some none)
    (z_str : PySem.W.nsIn K mainGlobals "str" = some none)
    (z_enumerate : PySem.W.nsIn K mainGlobals "enumerate" = some none)
    (z_min : PySem.W.nsIn K mainGlobals "min" = some none)
    (z_max : PySem.W.nsIn K mainGlobals "max" = some none)
    (z_abs : PySem.W.nsIn K mainGlobals "abs" = some none)
    (z_isinstance : PySem.W.nsIn K mainGlobals "isinstance" = some none)
    : ∃ fd : FuncData, (∀ (s : Shared) (v : Value), BindsTo s fd ⟨[v], []⟩ [("script", v)]) ∧ ∀ base : Heap, K.In base → base.Ns mainGlobals mg → FnOk l.prog w K mg base CX0 41 fa fd ["script"] (spLaw K) := by
  have e := hfa.symm.trans (PySem.W.mg_of X G a8)
  cases e
  have T : Tx mg := ⟨PySem.W.mg_none_of X G z_len, PySem.W.mg_none_of X G z_range, PySem.W.mg_none_of X G z_list, PySem.W.mg_none_of X G z_tuple, PySem.W.mg_none_of X G z_int, PySem.W.mg_none_of X G z_bool, PySem.W.mg_none_of X G z_str, PySem.W.mg_none_of X G z_enumerate, PySem.W.mg_none_of X G z_min, PySem.W.mg_none_of X G z_max, PySem.W.mg_none_of X G z_abs, PySem.W.mg_none_of X G z_isinstance⟩
  have F0 := fun_mk (st := s_distance) l0 c0 k0
  have b0 := F0.binds (ps := ["one", "two"]) fun _ _ _ _ _ _ us hl => match us, hl with | [_, _], _ => rfl
  have F1 := fun_mk (st := s__law_deck) l1 c1 k1
  have b1 := F1.binds (ps := ["script", "cells", "each"]) fun _ _ _ _ _ _ us hl => match us, hl with | [_, _, _], _ => rfl
  have F2 := fun_mk (st := s__law_take) l2 c2 k2
  have b2 := F2.binds (ps := ["deck", "many"]) fun _ _ _ _ _ _ us hl => match us, hl with | [_, _], _ => rfl
  have F3 := fun_mk (st := s__law_plain) l3 c3 k3
  have b3 := F3.binds (ps := ["value"]) fun _ _ _ _ _ _ us hl => match us, hl with | [_], _ => rfl
  have F4 := fun_mk (st := s__law_steps) l4 c4 k4
  have b4 := F4.binds (ps := ["one", "two", "known"]) fun _ _ _ _ _ _ us hl => match us, hl with | [_, _, _], _ => rfl
  have F5 := fun_mk (st := s__law_slip) l5 c5 k5
  have b5 := F5.binds (ps := ["deck", "word", "letters"]) fun _ _ _ _ _ _ us hl => match us, hl with | [_, _, _], _ => rfl
  have F6 := fun_mk (st := s__law_word) l6 c6 k6
  have b6 := F6.binds (ps := ["deck", "most"]) fun _ _ _ _ _ _ us hl => match us, hl with | [_, _], _ => rfl
  have F7 := fun_mk (st := s__law_made_by) l7 c7 k7
  have b7 := F7.binds (ps := ["deck", "word"]) fun _ _ _ _ _ _ us hl => match us, hl with | [_, _], _ => rfl
  have F8 := fun_mk (st := s_law) l8 c8 k8
  exact ⟨PySem.W.fnOf "law" "law" (defArgs s_law) (defBody s_law) (defScope s_law) .none kV8 dc8 pm8 an8 cd8 ct8, fun s v => .of_eq rfl, fun base _ _ => main F0 b0 (PySem.W.mg_of X G a0) F1 b1 (PySem.W.mg_of X G a1) F2 b2 (PySem.W.mg_of X G a2) F3 b3 (PySem.W.mg_of X G a3) F4 b4 (PySem.W.mg_of X G a4) F5 b5 (PySem.W.mg_of X G a5) F6 b6 (PySem.W.mg_of X G a6) F7 b7 (PySem.W.mg_of X G a7) F8 T⟩
end K41
open PySem PySem.W PyProof.Rows
set_option maxRecDepth 100000 in
set_option maxHeartbeats 0 in
theorem PySem.Challenge.cw_tellwork_k41_distances_holds : PySem.Challenge.rw_tellwork_k41_distances.Holds := by
  w_on; o_law; k_head; (case hw => w_witness2)
  k_fill
  refine L2.walk_of (l := PySem.Challenge.rw_tellwork_k41_distances) (n := 63) (k := 41) (x := "script") (CX := fun _ => L2.CX0) (sp := fun w => K41.spLaw _) rfl (by decide) rfl ⟨rfl, by decide, by decide⟩ (fun w h Y => PySem.W.kIn_of Y) ?F (fun _ _ a ns hl _ hS => ⟨a, ns, rfl, hS, hl, fun _ => rfl⟩) (fun _ _ _ _ _ h => h)
  case F =>
    intro w mg fa h KX G hmg
    refine' K41.all_mk KX G hmg ?a0 ?l0 ?c0 ?k0 ?a1 ?l1 ?c1 ?k1 ?a2 ?l2 ?c2 ?k2 ?a3 ?l3 ?c3 ?k3 ?a4 ?l4 ?c4 ?k4 ?a5 ?l5 ?c5 ?k5 ?a6 ?l6 ?c6 ?k6 ?a7 ?l7 ?c7 ?k7 ?a8 ?l8 ?c8 ?k8 ?z_len ?z_range ?z_list ?z_tuple ?z_int ?z_bool ?z_str ?z_enumerate ?z_min ?z_max ?z_abs ?z_isinstance
    (case a0 => k_is)
    (case l0 => k_is)
    (case c0 => k_is)
    (case k0 => k_is)
    (case a1 => k_is)
    (case l1 => k_is)
    (case c1 => k_is)
    (case k1 => k_is)
    (case a2 => k_is)
    (case l2 => k_is)
    (case c2 => k_is)
    (case k2 => k_is)
    (case a3 => k_is)
    (case l3 => k_is)
    (case c3 => k_is)
    (case k3 => k_is)
    (case a4 => k_is)
    (case l4 => k_is)
    (case c4 => k_is)
    (case k4 => k_is)
    (case a5 => k_is)
    (case l5 => k_is)
    (case c5 => k_is)
    (case k5 => k_is)
    (case a6 => k_is)
    (case l6 => k_is)
    (case c6 => k_is)
    (case k6 => k_is)
    (case a7 => k_is)
    (case l7 => k_is)
    (case c7 => k_is)
    (case k7 => k_is)
    (case a8 => k_is)
    (case l8 => k_is)
    (case c8 => k_is)
    (case k8 => k_is)
    (case z_len => k_is)
    (case z_range => k_is)
    (case z_list => k_is)
    (case z_tuple => k_is)
    (case z_int => k_is)
    (case z_bool => k_is)
    (case z_str => k_is)
    (case z_enumerate => k_is)
    (case z_min => k_is)
    (case z_max => k_is)
    (case z_abs => k_is)
    (case z_isinstance => k_is)
