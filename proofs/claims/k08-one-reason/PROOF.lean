import PyProof.Rows.All
import Wide.All
import OpenK.AllK
import Wide.FinOn
import HandS.ForMost
import HandS.Evl
import HandS.Walk
import HandS.IsInst
import HandS.SortKw
import HandS.Style
import HandS.StrMore
import HandS.Deep
import HandS.TupLe
import KE.GoesEnum
import KE.DataMinMax
import KE.SortData
import HandS.WideBits
import HandS.Wide
import HandS.SetFor
import HandS.Strs
import HandS.Exc
import HandS.ExcOwn
import HandS.ExcIs
import HandS.ExcCtx
import HandS.HotCalls
import HandS.WordsExc
import HandS.CallLocal
import HandS.Lambda
import HandS.EndTab
import HandS.Conv
import HandS.Iter
import PySem.Challenge.RW_cardheaps_k08_one_reason
set_option Elab.async false
set_option linter.all false
set_option maxRecDepth 100000
set_option maxHeartbeats 4000000
namespace L2
open PySem PySem.Spec PyProof.Rows
/-! enumerate over a text -/
def Ites (x : Str) : It := ⟨fun i _ => i < x.cps.size, fun i H v H' => ∃ T c, v = .ref T ∧ H T = none ∧ H' = upd H T (.tup [.int (i : Nat), .str ⟨#[c]⟩]) ∧ x.cps[i]? = some c, fun i _ => i = x.cps.size⟩
theorem turn_enumS {P : Program} {w : World} {K : PySem.W.Frag} {elts : List Expr} {kk : Nat} {tpos : Pos} (x : Str) (t : Tok) (e it : Addr) :
    Turn P w K (.Tuple elts kk tpos) (Ites x) [e, it] e (fun i h => (∃ old, IsEnum h e it ((i : Nat) : Int) old) ∧ h.IsStrIter it (strIterType x) x t i ∧ e ≠ it) where
  mem := by simp
  obj := fun i h st b hb => by
    obtain ⟨⟨old, he⟩, ⟨o, ho, hc, hd⟩, _⟩ := st
    have e' : b = e ∨ b = it := by simpa using hb
    rcases e' with z | z
    · rw [z]; exact ⟨_, he, fun v q => nomatch q⟩
    · rw [z]; exact ⟨o, ho, fun v q => by rw [hd] at q; cases q⟩
  keep := fun i h h' st k => by
    obtain ⟨⟨old, he⟩, ⟨o, ho, r⟩, hne⟩ := st
    exact ⟨⟨old, k e (by simp) _ he⟩, ⟨o, k it (by simp) o ho, r⟩, hne⟩
  item := by
    intro X hP hw hK hc i pins s σ H E I hf st hg
    subst hP hw hK
    obtain ⟨⟨old, he⟩, hit, hne⟩ := st
    have hel : e < s.heap.objs.size := Heap.lt_size he
    have hil : it < s.heap.objs.size := by obtain ⟨_, q, _⟩ := hit; exact Heap.lt_size q
    have D : Draws X.prog X.w X.A.in1 it [it] x.cps.size (fun i v => ∃ c u, x.cps[i]? = some c ∧ v = .str ⟨#[c]⟩ u) (fun i h => h.IsStrIter it (strIterType x) x t i) := Draws.text (A := X.A.in1) (show X.A.in1.handled = none from I.ok.hd hc) it x t
    refine wpAny_pyNext_enum_itemC D he hit hg hne (by simpa using hne) fun v h' tk hP ho hit' hT hsz hk => ?_
    obtain ⟨c, u, hcx, rfl⟩ := hP
    refine ⟨_, rfl, wpAny_letOwnedTupleGo_enum (s := { s with heap := h', toks := tk + 1 }) ho fun h'' he' sb => ?_⟩
    have hT2 : h''.get? s.heap.objs.size = some { cls := .type "tuple", data := .seq #[.int i tk, .str ⟨#[c]⟩ u] } := (sb.2 _ (Nat.ne_of_gt hel)).trans hT
    have new : ObjOk X.prog X.w (upd H s.heap.objs.size (.tup [.int (i : Nat), .str ⟨#[c]⟩])) h'' s.heap.objs.size (.tup [.int (i : Nat), .str ⟨#[c]⟩]) :=
      ⟨by show 2 ≤ sizeLine; decide, [.int i tk, .str ⟨#[c]⟩ u], .cons ⟨_, rfl⟩ (.cons ⟨_, rfl⟩ .nil), ⟨_, hT2, rfl, _, rfl⟩⟩
    have I1 : Inv X pins σ (upd H s.heap.objs.size (.tup [.int (i : Nat), .str ⟨#[c]⟩])) { s with heap := h'', toks := tk + 1 } :=
      I.turnedNew (ch := [e, it]) (fun b ob hb q => (sb.2 b (fun z => hb (by simp [z]))).trans (hk b ob (fun z => hb (by simp [z])) (fun z => hb (by simp [z])) q)) hf (Nat.le_refl _) new
    refine ⟨.ref s.heap.objs.size, _, I1, rfl, ⟨_, c, rfl, I.hok.fresh (Nat.le_refl _), rfl, hcx⟩, ⟨⟨.str ⟨#[c]⟩ u, ?_⟩, ?_, hne⟩, fun b hb => ?_⟩
    · have e1 : ((i + 1 : Nat) : Int) = (i : Int) + 1 := by omega
      rw [e1]; exact he'
    · obtain ⟨o, ho', r⟩ := hit'
      exact ⟨o, (sb.2 it (Ne.symm hne)).trans ho', r⟩
    · have hb' : b < s.heap.objs.size := by
        have e' : b = e ∨ b = it := by simpa using hb
        rcases e' with z | z
        · rw [z]; exact hel
        · rw [z]; exact hil
      rw [upd_ne (Nat.ne_of_lt hb')]
      exact (hf b hb).1
  done := by
    intro X hP hw hK hc i pins s σ H E I hf st hg
    subst hP hw hK
    obtain ⟨⟨old, he⟩, hit, hne⟩ := st
    have hg' : i = x.cps.size := hg
    subst hg'
    obtain ⟨f0, f1, f2, f3, f4, f5⟩ := hf it (by simp)
    have D : Draws X.prog X.w X.A.in1 it [it] x.cps.size (fun i v => ∃ c u, x.cps[i]? = some c ∧ v = .str ⟨#[c]⟩ u) (fun i h => h.IsStrIter it (strIterType x) x t i) := Draws.text (A := X.A.in1) (show X.A.in1.handled = none from I.ok.hd hc) it x t
    exact wpAny_pyNext_enum_endD D he hit fun h' eb => ⟨rfl, I.turned (t' := s.toks) (fun b o hb q => eb b o hb q) f0 f1 f3 f4 f5⟩
  self := fun A i s Q E st h => let ⟨⟨_, he⟩, _⟩ := st; wpAny_pyIter_enum he h
def iEnumS (ta : TA) : TI := fun σ H R => ta σ H fun vs H1 => ∃ x, vs = [.str x] ∧ R (Ites x) H1
theorem pi_enumS {X : Cx} {e : Expr} {ta : TA} {p pos tpos : Pos} {elts : List Expr} {kk : Nat} (hg : Gl X "enumerate") (hm : X.mg "enumerate" = none) (ha : PA X [e] ta) (hs : starEach [e] X.env = [(false, eval e X.env)] := by rfl) :
    PI X (.Tuple elts kk tpos) (.Call (.Name "enumerate" p) [e] [] pos) (iEnumS ta) := by
  refine ⟨fun pins s σ H R I h => ?_⟩
  refine Call_ (ld_blt I hg hm boot_enumerate (PyProof.Rows.callWith_type1 (thn (ha.run pos pins s σ H _ I h) fun us s1 ⟨vs, H1, I1, r1, q1⟩ => ?_) hs rfl))
  obtain ⟨x, ex, q⟩ := q1
  subst ex
  cases r1 with
  | cons r rr =>
    cases rr
    obtain ⟨t, rfl⟩ := r
    refine call_enumerate_str fun h' he hit hsz hk => wpAny_pyIter_enum he ?_
    have I2 : Inv X pins σ H1 { s1 with heap := h' } := I1.kept (t' := s1.toks) hk
    refine ⟨s1.heap.objs.size + 1, [s1.heap.objs.size + 1, s1.heap.objs.size], _, _, H1, rfl, I2, turn_enumS x t (s1.heap.objs.size + 1) s1.heap.objs.size, ⟨⟨.none, he⟩, hit, Nat.succ_ne_self _⟩, fun b hb => ?_, q⟩
    have e' : b = s1.heap.objs.size + 1 ∨ b = s1.heap.objs.size := by simpa using hb
    have hle : s1.heap.objs.size ≤ b := by
      rcases e' with z | z
      · rw [z]; exact Nat.le_add_right _ _
      · rw [z]; exact Nat.le_refl _
    exact I1.fpOk hle (I1.hok.fresh hle)
theorem walk_enumS {x : Str} : Walk (Ites x) x.cps.size (fun _ => True) (fun i H v H' => ∃ T c, v = .ref T ∧ H T = none ∧ H' = upd H T (.tup [.int (i : Nat), .str ⟨#[c]⟩]) ∧ x.cps[i]? = some c) :=
  ⟨fun _ _ h _ => h, fun _ _ => rfl, fun _ _ _ _ _ _ y => y⟩
end L2
/-! the mathematics of the heaps, plain Lean -/
namespace Ch
structure Hs (ns : List Nat) : Prop where
  pos : ∀ n ∈ ns, 0 < n
  srt : ns.Pairwise (· ≥ ·)
  sm : ns.sum ≤ 400
theorem len_le_sum : ∀ {ns : List Nat}, (∀ n ∈ ns, 0 < n) → ns.length ≤ ns.sum
  | [], _ => Nat.le_refl _
  | a :: r, h => by
    have h1 := len_le_sum (ns := r) fun n hn => h n (List.mem_cons_of_mem _ hn)
    have h2 := h a List.mem_cons_self
    simp only [List.length_cons, List.sum_cons]; omega
theorem Hs.len {ns : List Nat} (h : Hs ns) : ns.length ≤ 400 := Nat.le_trans (len_le_sum h.pos) h.sm
theorem mem_le_sum : ∀ {ns : List Nat} {n : Nat}, n ∈ ns → n ≤ ns.sum
  | a :: r, n, h => by
    rcases List.mem_cons.mp h with rfl | h
    · simp only [List.sum_cons]; omega
    · have := mem_le_sum h
      simp only [List.sum_cons]; omega
theorem Hs.le {ns : List Nat} (h : Hs ns) {n : Nat} (hn : n ∈ ns) : n ≤ 400 := Nat.le_trans (mem_le_sum hn) h.sm
theorem Hs.nil : Hs [] := ⟨fun _ h => (by cases h), List.Pairwise.nil, by decide⟩
/-! the turn -/
def ins (x : Nat) : List Nat → List Nat
  | [] => [x]
  | y :: r => if y ≤ x then x :: y :: r else y :: ins x r
def left (h : List Nat) : List Nat := (h.filter (1 < ·)).map (· - 1)
def turn (h : List Nat) : List Nat := if h = [] then [] else ins h.length (left h)
theorem ins_perm (x : Nat) : ∀ l : List Nat, (ins x l).Perm (x :: l)
  | [] => List.Perm.refl _
  | y :: r => by
    unfold ins
    split
    · exact List.Perm.refl _
    · exact ((ins_perm x r).cons y).trans (List.Perm.swap x y r)
theorem ins_srt (x : Nat) : ∀ {l : List Nat}, l.Pairwise (· ≥ ·) → (ins x l).Pairwise (· ≥ ·)
  | [], _ => List.pairwise_singleton _ _
  | y :: r, h => by
    obtain ⟨h1, h2⟩ := List.pairwise_cons.mp h
    unfold ins
    split
    · rename_i hyx
      refine List.pairwise_cons.mpr ⟨fun z hz => ?_, h⟩
      rcases List.mem_cons.mp hz with rfl | hz
      · exact hyx
      · exact Nat.le_trans (h1 z hz) hyx
    · rename_i hyx
      refine List.pairwise_cons.mpr ⟨fun z hz => ?_, ins_srt x h2⟩
      have := (ins_perm x r).mem_iff.mp hz
      rcases List.mem_cons.mp this with rfl | hz
      · show z ≤ y; omega
      · exact h1 z hz
theorem ins_ge {x : Nat} : ∀ {l : List Nat}, (∀ y ∈ l, y ≤ x) → ins x l = x :: l
  | [], _ => rfl
  | y :: r, h => by unfold ins; rw [if_pos (h y List.mem_cons_self)]
theorem left_pos {h : List Nat} : ∀ n ∈ left h, 0 < n := by
  intro n hn
  unfold left at hn
  obtain ⟨m, hm, rfl⟩ := List.mem_map.mp hn
  have := (List.mem_filter.mp hm).2
  simp only [decide_eq_true_eq] at this
  show 0 < m - 1
  omega
theorem left_srt {h : List Nat} (hs : h.Pairwise (· ≥ ·)) : (left h).Pairwise (· ≥ ·) :=
  (List.Pairwise.filter _ hs).map _ fun a b (h : a ≥ b) => show a - 1 ≥ b - 1 by omega
theorem left_sum : ∀ {h : List Nat}, (∀ n ∈ h, 0 < n) → (left h).sum + h.length = h.sum
  | [], _ => rfl
  | a :: r, hp => by
    have ih := left_sum (h := r) fun n hn => hp n (List.mem_cons_of_mem _ hn)
    have h0 := hp a List.mem_cons_self
    unfold left at ih ⊢
    by_cases h1 : 1 < a
    · rw [List.filter_cons, if_pos (by simpa using h1), List.map_cons, List.sum_cons, List.sum_cons, List.length_cons]; omega
    · rw [List.filter_cons, if_neg (by simpa using h1), List.sum_cons, List.length_cons]; omega
theorem turn_nil : turn [] = [] := rfl
theorem turn_perm {h : List Nat} (hn : h ≠ []) : (turn h).Perm (left h ++ [h.length]) := by
  unfold turn
  rw [if_neg hn]
  exact (ins_perm _ _).trans (List.perm_append_comm (l₁ := [h.length]) (l₂ := left h))
theorem turn_srt {h : List Nat} (hs : h.Pairwise (· ≥ ·)) : (turn h).Pairwise (· ≥ ·) := by
  unfold turn
  split
  · exact List.Pairwise.nil
  · exact ins_srt _ (left_srt hs)
theorem turn_sum {h : List Nat} (hp : ∀ n ∈ h, 0 < n) : (turn h).sum = h.sum := by
  by_cases hn : h = []
  · subst hn; rfl
  · rw [(turn_perm hn).sum_nat, List.sum_append]
    have := left_sum hp
    simp only [List.sum_cons, List.sum_nil]; omega
theorem turn_pos {h : List Nat} : ∀ n ∈ turn h, 0 < n := by
  intro n hn
  by_cases h0 : h = []
  · subst h0; cases hn
  · have := (turn_perm h0).mem_iff.mp hn
    rcases List.mem_append.mp this with h1 | h1
    · exact left_pos n h1
    · rw [List.mem_singleton.mp h1]
      exact List.length_pos_iff.mpr h0
theorem Hs.turn {h : List Nat} (hs : Hs h) : Hs (turn h) := ⟨turn_pos, turn_srt hs.srt, by rw [turn_sum hs.pos]; exact hs.sm⟩
/-! ints -/
def cl (ns : List Nat) : List Int := ns.map fun (n : Nat) => (n : Int)
theorem cl_len (ns : List Nat) : (cl ns).length = ns.length := List.length_map _
theorem cl_nil : cl [] = [] := rfl
theorem cl_cons (a : Nat) (r : List Nat) : cl (a :: r) = (a : Int) :: cl r := rfl
theorem cl_append (a b : List Nat) : cl (a ++ b) = cl a ++ cl b := List.map_append
theorem cl_sum : ∀ ns : List Nat, (cl ns).sum = (ns.sum : Int)
  | [] => rfl
  | a :: r => by rw [cl_cons, List.sum_cons, List.sum_cons, cl_sum r]; omega
theorem cl_get {ns : List Nat} {i n : Nat} (h : ns[i]? = some n) : (cl ns)[i]? = some (n : Int) := by
  unfold cl
  rw [List.getElem?_map, h]; rfl
theorem cl_inj : ∀ {a b : List Nat}, cl a = cl b → a = b
  | [], [], _ => rfl
  | [], _ :: _, h => by cases h
  | _ :: _, [], h => by cases h
  | x :: a, y :: b, h => by
    rw [cl_cons, cl_cons] at h
    injection h with h1 h2
    rw [cl_inj h2, show x = y by omega]
theorem cl_eq_nil {a : List Nat} : cl a = [] ↔ a = [] := by cases a <;> simp [cl]
theorem cl_srt {ns : List Nat} (h : ns.Pairwise (· ≥ ·)) : (cl ns).Pairwise (· ≥ ·) := h.map _ fun a b (q : a ≥ b) => show (a : Int) ≥ (b : Int) by omega
theorem cl_mem {ns : List Nat} {z : Int} (h : z ∈ cl ns) : ∃ n ∈ ns, z = (n : Int) := by
  obtain ⟨n, hn, e⟩ := List.mem_map.mp h
  exact ⟨n, hn, e.symm⟩
/-- the one list in falling order -/
theorem down_one {a b : List Int} (hp : a.Perm b) (ha : a.Pairwise (· ≥ ·)) (hb : b.Pairwise (· ≥ ·)) : a = b :=
  List.Perm.eq_of_pairwise (le := (· ≥ ·)) (fun x y _ _ (h1 : x ≥ y) (h2 : y ≥ x) => by omega) ha hb hp
theorem cl_perm {a b : List Nat} (h : a.Perm b) : (cl a).Perm (cl b) := h.map _
/-- what a falling list of ints that are whole numbers from one on is -/
theorem sorted_is {ns' : List Int} {l m : List Nat} (hp : ns'.Perm (cl l)) (hs : ns'.Pairwise (· ≥ ·)) (hm : m.Perm l) (hms : m.Pairwise (· ≥ ·)) : ns' = cl m :=
  down_one (hp.trans (cl_perm hm).symm) hs (cl_srt hms)
theorem cl_left : ∀ h : List Nat, cl (left h) = ((cl h).filter fun z => decide (1 < z)).map fun z => z - 1
  | [] => rfl
  | a :: r => by
    have ih := cl_left r
    unfold left at ih ⊢
    rw [cl_cons]
    by_cases h1 : 1 < a
    · rw [List.filter_cons, if_pos (by simpa using h1), List.filter_cons, if_pos (by simp; omega), List.map_cons, cl_cons, ih, List.map_cons]
      congr 1
      omega
    · rw [List.filter_cons, if_neg (by simpa using h1), List.filter_cons, if_neg (by simp; omega), ih]
/-! stairs -/
def IsSt (n s : Nat) : Prop := s * (s + 1) ≤ 2 * n ∧ 2 * n < (s + 1) * (s + 2)
def stAux : Nat → Nat → Nat → Nat
  | 0, _, s => s
  | f + 1, n, s => if (s + 1) * (s + 2) ≤ 2 * n then stAux f n (s + 1) else s
def stairs (n : Nat) : Nat := stAux (2 * n + 1) n 0
theorem stAux_is : ∀ (f n s : Nat), s * (s + 1) ≤ 2 * n → 2 * n < f + s → IsSt n (stAux f n s)
  | 0, n, s, h, hf => by
    have : s ≤ s * (s + 1) := Nat.le_mul_of_pos_right s (by omega)
    omega
  | f + 1, n, s, h, hf => by
    unfold stAux
    split
    · rename_i hc
      exact stAux_is f n (s + 1) hc (by omega)
    · rename_i hc
      exact ⟨h, by omega⟩
theorem stairs_is (n : Nat) : IsSt n (stairs n) := stAux_is _ _ _ (by simp) (by omega)
theorem sq_mono {a b : Nat} (h : a ≤ b) : a * (a + 1) ≤ b * (b + 1) := Nat.mul_le_mul h (by omega)
theorem IsSt.one {n s t : Nat} (a : IsSt n s) (b : IsSt n t) : s = t := by
  rcases Nat.lt_trichotomy s t with h | h | h
  · have h1 : (s + 1) * (s + 1 + 1) ≤ t * (t + 1) := sq_mono h
    have := a.2; have := b.1
    have e : s + 1 + 1 = s + 2 := rfl
    rw [e] at h1
    omega
  · exact h
  · have h1 : (t + 1) * (t + 1 + 1) ≤ s * (s + 1) := sq_mono h
    have := a.1; have := b.2
    have e : t + 1 + 1 = t + 2 := rfl
    rw [e] at h1
    omega
theorem stairs_le {n : Nat} : stairs n ≤ n := by
  have h := (stairs_is n).1
  rcases Nat.eq_zero_or_pos (stairs n) with e | e
  · omega
  · have : 2 * stairs n ≤ stairs n * (stairs n + 1) := by rw [Nat.mul_comm]; exact Nat.mul_le_mul_left _ (by omega)
    omega
theorem stairs_400 {n : Nat} (h : n ≤ 400) : stairs n ≤ 27 := by
  have h1 := (stairs_is n).1
  have : ¬ 28 ≤ stairs n := fun h2 => by
    have := sq_mono h2
    omega
  omega
/-! marks: true is x -/
def signs : List Nat → Option (List Bool)
  | [] => some []
  | c :: r => if c = r.length then (signs r).map (false :: ·) else if c = r.length + 1 then (signs r).map (true :: ·) else none
def pad (h : List Nat) (s : Nat) : List Nat := h ++ List.replicate (s + 1 - h.length) 0
def marks (h : List Nat) : Option (List Bool) := if stairs h.sum + 1 < h.length then none else signs (pad h (stairs h.sum))
def st : List Bool → List Nat
  | [] => []
  | b :: r => (r.length + b.toNat) :: st r
def stand (bs : List Bool) : List Nat := (st bs).filter (0 < ·)
theorem st_len : ∀ bs : List Bool, (st bs).length = bs.length
  | [] => rfl
  | b :: r => by show (st r).length + 1 = r.length + 1; rw [st_len r]
theorem signs_st : ∀ {l : List Nat} {bs : List Bool}, signs l = some bs → st bs = l
  | [], bs, h => by
    have e : ([] : List Bool) = bs := Option.some.inj h
    rw [← e]; rfl
  | c :: r, bs, h => by
    unfold signs at h
    split at h
    · rename_i hc
      obtain ⟨x, hx, rfl⟩ := Option.map_eq_some_iff.mp h
      have ih := signs_st hx
      show (x.length + 0) :: st x = c :: r
      rw [ih]
      have : x.length = r.length := by rw [← ih, st_len]
      congr 1; omega
    · split at h
      · rename_i hc
        obtain ⟨x, hx, rfl⟩ := Option.map_eq_some_iff.mp h
        have ih := signs_st hx
        show (x.length + 1) :: st x = c :: r
        rw [ih]
        have : x.length = r.length := by rw [← ih, st_len]
        congr 1; omega
      · cases h
theorem st_signs : ∀ bs : List Bool, signs (st bs) = some bs
  | [] => rfl
  | b :: r => by
    show signs ((r.length + b.toNat) :: st r) = _
    unfold signs
    rw [st_len, st_signs r]
    cases b
    · simp
    · simp
theorem signs_len {l : List Nat} {bs : List Bool} (h : signs l = some bs) : bs.length = l.length := by rw [← signs_st h, st_len]
theorem pad_len {h : List Nat} {s : Nat} (hl : h.length ≤ s + 1) : (pad h s).length = s + 1 := by
  unfold pad; rw [List.length_append, List.length_replicate]; omega
theorem filter_pos {h : List Nat} (hp : ∀ n ∈ h, 0 < n) : h.filter (0 < ·) = h := List.filter_eq_self.mpr fun a ha => by simpa using hp a ha
theorem pad_filter {h : List Nat} {s : Nat} (hp : ∀ n ∈ h, 0 < n) : (pad h s).filter (0 < ·) = h := by
  unfold pad
  rw [List.filter_append, filter_pos hp]
  have : (List.replicate (s + 1 - h.length) 0).filter (fun n : Nat => decide (0 < n)) = [] := List.filter_eq_nil_iff.mpr fun a ha => by
    rw [(List.mem_replicate.mp ha).2]; decide
  rw [this, List.append_nil]
theorem marks_len {h : List Nat} {bs : List Bool} (hm : marks h = some bs) : bs.length = stairs h.sum + 1 := by
  unfold marks at hm
  split at hm
  · cases hm
  · rw [signs_len hm, pad_len (by omega)]
theorem marks_stand {h : List Nat} {bs : List Bool} (hp : ∀ n ∈ h, 0 < n) (hm : marks h = some bs) : stand bs = h := by
  unfold marks at hm
  split at hm
  · cases hm
  · unfold stand
    rw [signs_st hm, pad_filter hp]
/-! a turn puts the last sign ahead -/
def rot (bs : List Bool) : List Bool := match bs.getLast? with
  | none => []
  | some b => b :: bs.dropLast
theorem rot_snoc (cs : List Bool) (b : Bool) : rot (cs ++ [b]) = b :: cs := by
  unfold rot
  rw [List.getLast?_append]
  simp
theorem snoc_of : ∀ {bs : List Bool}, bs ≠ [] → ∃ cs b, bs = cs ++ [b] := fun {bs} h => ⟨bs.dropLast, bs.getLast h, (List.dropLast_concat_getLast h).symm⟩
def stk : List Bool → List Nat
  | [] => []
  | b :: r => (r.length + 1 + b.toNat) :: stk r
theorem st_snoc : ∀ (cs : List Bool) (b : Bool), st (cs ++ [b]) = stk cs ++ [b.toNat]
  | [], b => by show [0 + b.toNat] = [b.toNat]; rw [Nat.zero_add]
  | c :: cs, b => by
    show ((cs ++ [b]).length + c.toNat) :: st (cs ++ [b]) = (cs.length + 1 + c.toNat) :: (stk cs ++ [b.toNat])
    rw [st_snoc cs b, List.length_append]; rfl
theorem stk_len : ∀ cs : List Bool, (stk cs).length = cs.length
  | [] => rfl
  | c :: cs => by show (stk cs).length + 1 = cs.length + 1; rw [stk_len cs]
theorem stk_pos : ∀ (cs : List Bool), ∀ n ∈ stk cs, 0 < n
  | [], _, h => by cases h
  | c :: cs, n, h => by
    rcases List.mem_cons.mp h with rfl | h
    · omega
    · exact stk_pos cs n h
theorem left_stk : ∀ cs : List Bool, left (stk cs) = stand cs
  | [] => rfl
  | c :: cs => by
    have ih := left_stk cs
    unfold left stand at ih ⊢
    show ((cs.length + 1 + c.toNat) :: stk cs |>.filter _ |>.map _) = ((cs.length + c.toNat) :: st cs).filter _
    by_cases h : 0 < cs.length + c.toNat
    · rw [List.filter_cons, if_pos (by simp; omega), List.filter_cons, if_pos (by simpa using h), List.map_cons, ih]
      congr 1
      omega
    · rw [List.filter_cons, if_neg (by simp; omega), List.filter_cons, if_neg (by simpa using h), ih]
theorem stand_snoc (cs : List Bool) (b : Bool) : stand (cs ++ [b]) = stk cs ++ (if b then [1] else []) := by
  unfold stand
  rw [st_snoc, List.filter_append, filter_pos (stk_pos cs)]
  cases b <;> rfl
theorem st_le : ∀ (bs : List Bool), ∀ n ∈ st bs, n ≤ bs.length
  | [], _, h => by cases h
  | b :: r, n, h => by
    rcases List.mem_cons.mp h with rfl | h
    · have : b.toNat ≤ 1 := Bool.toNat_le b
      show r.length + b.toNat ≤ r.length + 1
      omega
    · have := st_le r n h
      show n ≤ r.length + 1
      omega
theorem stand_le {bs : List Bool} {n : Nat} (h : n ∈ stand bs) : n ≤ bs.length := st_le bs n (List.mem_filter.mp h).1
theorem stand_pos {bs : List Bool} : ∀ n ∈ stand bs, 0 < n := fun n h => by simpa using (List.mem_filter.mp h).2
theorem stand_cons (b : Bool) (cs : List Bool) : stand (b :: cs) = if 0 < cs.length + b.toNat then (cs.length + b.toNat) :: stand cs else stand cs := by
  unfold stand
  show ((cs.length + b.toNat) :: st cs).filter _ = _
  rw [List.filter_cons]
  by_cases h : 0 < cs.length + b.toNat
  · rw [if_pos (by simpa using h), if_pos h]
  · rw [if_neg (by simpa using h), if_neg h]
theorem st_srt : ∀ bs : List Bool, (st bs).Pairwise (· ≥ ·)
  | [] => List.Pairwise.nil
  | b :: r => List.pairwise_cons.mpr ⟨fun n hn => show n ≤ r.length + b.toNat from Nat.le_trans (st_le r n hn) (Nat.le_add_right _ _), st_srt r⟩
theorem stand_srt (bs : List Bool) : (stand bs).Pairwise (· ≥ ·) := (st_srt bs).filter _
theorem turn_stand {bs : List Bool} (hb : bs ≠ []) : turn (stand bs) = stand (rot bs) := by
  obtain ⟨cs, b, rfl⟩ := snoc_of hb
  rw [rot_snoc, stand_cons]
  have hl : (stand (cs ++ [b])).length = cs.length + b.toNat := by
    rw [stand_snoc, List.length_append, stk_len]
    cases b <;> rfl
  by_cases h0 : 0 < cs.length + b.toNat
  · rw [if_pos h0]
    have hn : stand (cs ++ [b]) ≠ [] := fun e => by rw [e] at hl; simp at hl; omega
    unfold turn
    rw [if_neg hn, hl]
    have e : left (stand (cs ++ [b])) = stand cs := by
      rw [stand_snoc]
      unfold left
      rw [List.filter_append, List.map_append]
      have e2 := left_stk cs
      unfold left at e2
      rw [e2]
      cases b <;> simp
    rw [e]
    exact ins_ge fun y hy => Nat.le_trans (stand_le hy) (Nat.le_add_right _ _)
  · rw [if_neg h0]
    have hc : cs = [] := List.length_eq_zero_iff.mp (by omega)
    subst hc
    have hbf : b = false := by cases b <;> simp_all
    subst hbf
    rfl
/-! many turns -/
def tn : Nat → List Nat → List Nat
  | 0, h => h
  | t + 1, h => tn t (turn h)
theorem tn_add : ∀ (a b : Nat) (h : List Nat), tn (a + b) h = tn b (tn a h)
  | 0, b, h => by rw [Nat.zero_add]; rfl
  | a + 1, b, h => by
    rw [Nat.succ_add]
    exact tn_add a b (turn h)
theorem tn_succ (t : Nat) (h : List Nat) : tn (t + 1) h = turn (tn t h) := tn_add t 1 h
theorem Hs.tn {h : List Nat} (hs : Hs h) : ∀ t, Hs (tn t h)
  | 0 => hs
  | t + 1 => by rw [tn_succ]; exact (hs.tn t).turn
theorem tn_sum {h : List Nat} (hp : ∀ n ∈ h, 0 < n) : ∀ t, (tn t h).sum = h.sum ∧ ∀ n ∈ tn t h, 0 < n
  | 0 => ⟨rfl, hp⟩
  | t + 1 => by
    obtain ⟨h1, h2⟩ := tn_sum hp t
    rw [tn_succ]
    exact ⟨by rw [turn_sum h2, h1], turn_pos⟩
def rotk (k : Nat) (bs : List Bool) : List Bool := bs.drop (bs.length - k) ++ bs.take (bs.length - k)
theorem rotk_len (k : Nat) (bs : List Bool) : (rotk k bs).length = bs.length := by
  unfold rotk
  rw [List.length_append, List.length_drop, List.length_take]; omega
theorem rotk_zero (bs : List Bool) : rotk 0 bs = bs := by
  unfold rotk
  simp
theorem rotk_full (bs : List Bool) : rotk bs.length bs = bs := by
  unfold rotk
  simp
theorem rot_rotk {bs : List Bool} {k : Nat} (hk : k < bs.length) : rot (rotk k bs) = rotk (k + 1) bs := by
  unfold rotk
  have hx : bs.take (bs.length - k) = bs.take (bs.length - (k + 1)) ++ [bs[bs.length - (k + 1)]'(by omega)] := by
    have e : bs.length - k = bs.length - (k + 1) + 1 := by omega
    rw [e, List.take_add_one, List.getElem?_eq_getElem (by omega)]; rfl
  rw [hx, ← List.append_assoc, rot_snoc]
  have hd : bs.drop (bs.length - (k + 1)) = bs[bs.length - (k + 1)]'(by omega) :: bs.drop (bs.length - k) := by
    rw [List.drop_eq_getElem_cons (by omega)]
    congr 2
    omega
  rw [hd]; rfl
def rotN : Nat → List Bool → List Bool
  | 0, bs => bs
  | t + 1, bs => rot (rotN t bs)
theorem rotN_rotk {bs : List Bool} (hb : bs ≠ []) : ∀ t, rotN t bs = rotk (t % bs.length) bs
  | 0 => by rw [Nat.zero_mod, rotk_zero]; rfl
  | t + 1 => by
    have hl : 0 < bs.length := List.length_pos_iff.mpr hb
    show rot (rotN t bs) = _
    rw [rotN_rotk hb t, rot_rotk (Nat.mod_lt _ hl)]
    have h1 := Nat.mod_lt t hl
    by_cases h2 : t % bs.length + 1 = bs.length
    · have e : (t + 1) % bs.length = 0 := by
        have hd := Nat.div_add_mod t bs.length
        have e1 : t + 1 = bs.length * (t / bs.length + 1) := by rw [Nat.mul_add, Nat.mul_one]; omega
        rw [e1, Nat.mul_mod_right]
      rw [h2, e, rotk_full, rotk_zero]
    · have e : (t + 1) % bs.length = t % bs.length + 1 := by
        have h3 : 1 < bs.length := by omega
        rw [Nat.add_mod, Nat.mod_eq_of_lt h3, Nat.mod_eq_of_lt (by omega)]
      rw [e]
theorem tn_stand {bs : List Bool} (hb : bs ≠ []) : ∀ t, tn t (stand bs) = stand (rotN t bs) ∧ (rotN t bs).length = bs.length
  | 0 => ⟨rfl, rfl⟩
  | t + 1 => by
    obtain ⟨h1, h2⟩ := tn_stand hb t
    have hn : rotN t bs ≠ [] := fun e => by rw [e] at h2; exact hb (List.length_eq_zero_iff.mp h2.symm)
    refine ⟨by rw [tn_succ, h1, turn_stand hn]; rfl, ?_⟩
    show (rot (rotN t bs)).length = _
    obtain ⟨cs, b, e⟩ := snoc_of hn
    rw [e, rot_snoc, ← h2, e, List.length_append]; rfl
theorem tn_rot {bs : List Bool} (hb : bs ≠ []) (t : Nat) : tn t (stand bs) = stand (rotk (t % bs.length) bs) := by rw [(tn_stand hb t).1, rotN_rotk hb]
theorem left_len (h : List Nat) : (left h).length ≤ h.length := by
  unfold left
  rw [List.length_map]
  exact List.length_filter_le _ _
end Ch
namespace L2
open PySem PySem.Spec PyProof.Rows
/-- a def that may be called by its name -/
structure Cal (P : Program) (w : World) (K : PySem.W.Frag) (mg : Str → Option Value) (base : Heap) (k : Nat) (x : Str) (sp : Sp) : Prop where
  ex : ∃ (f : Addr) (fd : FuncData) (ps : List Str), FnOk P w K mg base CX0 k f fd ps sp ∧ mg x = some (.ref f) ∧ PySem.W.keepIn K (.ref f) = true ∧ Binds K fd ps []
section
variable {X : Cx} {k j : Nat} {x : Str} {sp : Sp} {p pos : Pos} {e : Expr} {es : List Expr} {t : TA}
theorem pe_c (c : Cal X.prog X.w X.K X.mg X.base k x sp) (hr : Room j X.A) (hk : k ≤ j) (hg : Gl X x) (ha : PA X (e :: es) t)
    (hdb : (x == ("__debug__" : Str)) = false := by decide) (he : starEach (e :: es) X.env = (false, eval e X.env) :: starEach es X.env := by rfl) (hpl : (backTo pos (starEach es X.env)).any (·.1) = false := by rfl) :
    PE X (.Call (.Name x p) (e :: es) [] pos) (tCall sp [] E0 t) := by
  obtain ⟨f, fd, ps, F, hm, kp, b⟩ := c.ex
  exact pe_call F (hr.mono hk) hg hm kp b .nil pass0 ha hdb he hpl
/-- a number of the module -/
theorem pe_gi {i : Int} (hg : Gl X x) (h : ∃ t, X.mg x = some (.int i t)) (hn : (x == ("__debug__" : Str)) = false := by decide) : PE X (.Name x pos) (tC (.int i)) := by
  obtain ⟨t, h⟩ := h
  exact pe_glob hg h ⟨t, rfl⟩ hn
end
theorem cal_of {P : Program} {w : World} {K : PySem.W.Frag} {mg : Str → Option Value} {base : Heap} {k : Nat} {x q : Str} {st : Stmt} {sp : Sp} {f : Addr} {fd : FuncData} {ps : List Str} (F : Fun K x q st f fd) (h : FnOk P w K mg base CX0 k f fd ps sp) (m : mg x = some (.ref f)) (b : Binds K fd ps []) : Cal P w K mg base k x sp :=
  ⟨f, fd, ps, h, m, F.kp, b⟩
theorem Room.units65 {k : Nat} {A : Around} (hr : Room k A) : A.units + 65 < cLine := by
  have := hr.un
  omega
end L2
namespace Evl
open PySem L2
def EvP (te : TE) (σ : L2.St) (H : Hp) (P : V → Hp → Prop) : Prop := ∀ H1, Ex H H1 → ∀ Q : VK, (∀ v H2, Ex H1 H2 → P v H2 → Q v H2) → te σ H1 Q
def SpP (sp : Sp) (vs : List V) (H : Hp) (P : V → Hp → Prop) : Prop := ∀ H1, Ex H H1 → ∀ Q : VK, (∀ v H2, Ex H1 H2 → P v H2 → Q v H2) → ∀ E : XK, sp vs H1 Q E
def RetP (P : V → Hp → Prop) (H : Hp) (Q : VK) : Prop := ∀ v H2, Ex H H2 → P v H2 → Q v H2
section
variable {K : PySem.W.Frag} {σ : L2.St} {H H' : Hp} {ta tb te tx : TE} {t u : TT} {x y z v : V} {r : R2} {P : V → Hp → Prop}
theorem EvP.mono (e : Ex H H') (h : EvP te σ H P) : EvP te σ H' P := fun H1 a Q q => h H1 (e.trans a) Q q
theorem EvP.imp {P' : V → Hp → Prop} (h : EvP te σ H P) (i : ∀ v H1, Ex H H1 → P v H1 → P' v H1) : EvP te σ H P' := fun H1 a Q q => h H1 a Q fun v H2 e p => q v H2 e (i v H2 (a.trans e) p)
theorem ep_ev (h : Ev te σ H v) (p : ∀ H1, Ex H H1 → P v H1) : EvP te σ H P := fun H1 a Q q => h H1 a Q fun H2 e => q v H2 e (p H2 (a.trans e))
theorem ep_el {xs : List V} (h : EvL te σ H xs) (p : ∀ a H1, Ex H H1 → H1 a = some (.lst xs) → P (.ref a) H1) : EvP te σ H P := fun H1 a Q q => h H1 a Q fun b H2 _ e h2 => q _ H2 e (p b H2 (a.trans e) h2)
theorem ep_call {sp : Sp} {vs : List V} {E : XK} {ta : TA} (h : EvA ta σ H vs) (hs : SpP sp (vs ++ []) H P) : EvP (tCall sp [] E ta) σ H P := fun H1 e Q q =>
  h H1 e _ fun H2 e2 => hs H2 (e.trans e2) Q (fun v H3 e3 p => q v H3 (e2.trans e3) p) E
theorem s_asgP {D : Ends} {i : Nat} (h : EvP te σ H P) (k : ∀ v H1, Ex H H1 → P v H1 → D.nx (σ.set i (some v)) H1) : tAsg te (gName i) D σ H := h H (Ex.refl H) _ fun v H1 e p => k v H1 e p
theorem q_asgP {D : Ends} {tz : TS} {i : Nat} (h : EvP te σ H P) (k : ∀ v H1, Ex H H1 → P v H1 → tz D (σ.set i (some v)) H1) : tSeq (tAsg te (gName i)) tz D σ H := h H (Ex.refl H) _ fun v H1 e p => k v H1 e p
theorem s_retP {D : Ends} (h : EvP te σ H P) (k : ∀ v H1, Ex H H1 → P v H1 → D.rt v H1) : tRet te D σ H := h H (Ex.refl H) _ k
theorem q_dropP {D : Ends} {tz : TS} (h : EvP te σ H P) (k : ∀ H1, Ex H H1 → tz D σ H1) : tSeq (tDrop te) tz D σ H := h H (Ex.refl H) _ fun v H1 e _ => k H1 e
theorem q_dropL {D : Ends} {tz : TS} {xs : List V} (h : EvL te σ H xs) (k : ∀ H1, Ex H H1 → tz D σ H1) : tSeq (tDrop te) tz D σ H := h H (Ex.refl H) _ fun p H1 _ e _ => k H1 e
/-! data -/
mutual
theorem dp_mono (e : Ex H H') : ∀ (d : PyData) (v : V), Dp K H v d → Dp K H' v d
  | .none, _, h => by cases h; exact .non
  | .bool b, _, h => by cases h; exact .bl b
  | .int i, _, h => by cases h; exact .int i
  | .str z, _, h => by cases h; exact .str z
  | .list ds, _, h => by
    cases h with
    | lst s q => exact .lst (ex_l e s) (dps_mono e ds _ q)
  | .tuple ds, _, h => by
    cases h with
    | tup s q => exact .tup (ex_t e s) (dps_mono e ds _ q)
  | .dict _, _, h => nomatch h
theorem dps_mono (e : Ex H H') : ∀ (ds : List PyData) (vs : List V), DpAll K H vs ds → DpAll K H' vs ds
  | [], _, h => by cases h; exact .nil
  | d :: ds, _, h => by
    cases h with
    | cons a b => exact .cons (dp_mono e d _ a) (dps_mono e ds _ b)
end
def IsD (K : PySem.W.Frag) (d : PyData) : V → Hp → Prop := fun v H => Dp K H v d
theorem ev_eqD {d e : PyData} (ha : EvP ta σ H (IsD K d)) (hb : EvP tb σ H (IsD K e)) (sd : SeqAt.shaped d = true) (se : SeqAt.shaped e = true) : Ev (tOp (rEqD K) ta tb) σ H (.bl (PyData.eqv d e)) := fun H1 a Q q =>
  ha H1 a _ fun v H2 e2 p => hb H2 (a.trans e2) _ fun w H3 e3 p' => ⟨d, e, dp_mono e3 d v p, p', sd, se, q H3 (e2.trans e3)⟩
theorem ev_neD {d e : PyData} (ha : EvP ta σ H (IsD K d)) (hb : EvP tb σ H (IsD K e)) (sd : SeqAt.shaped d = true) (se : SeqAt.shaped e = true) : Ev (tOp (rNeD K) ta tb) σ H (.bl (!PyData.eqv d e)) := fun H1 a Q q =>
  ha H1 a _ fun v H2 e2 p => hb H2 (a.trans e2) _ fun w H3 e3 p' => ⟨d, e, dp_mono e3 d v p, p', sd, se, q H3 (e2.trans e3)⟩
/-- a list of ints as data -/
def dI (ns : List Int) : PyData := .list (ns.map .int)
theorem dpI {a : Addr} {ns : List Int} (h : SqL K H a (ns.map V.int)) : Dp K H (.ref a) (dI ns) := by
  refine .lst h ?_
  clear h
  induction ns with
  | nil => exact .nil
  | cons n r ih => exact .cons (.int n) ih
theorem depthAll_int : ∀ ns : List Int, PyData.depthAll (ns.map .int) ≤ 1
  | [] => by simp [PyData.depthAll]
  | n :: r => by
    have := depthAll_int r
    simp only [List.map_cons, PyData.depthAll, PyData.depth]
    omega
theorem canAll_int : ∀ ns : List Int, PyData.canLayAll0 (ns.map .int) = true
  | [] => by simp [PyData.canLayAll0]
  | n :: r => by simp only [List.map_cons, PyData.canLayAll0, PyData.canLay0, canAll_int r, Bool.and_self]
theorem shI (ns : List Int) : SeqAt.shaped (dI ns) = true := by
  unfold SeqAt.shaped dI
  have h1 := depthAll_int ns
  simp only [PyData.canLay0, canAll_int, PyData.depth, Bool.true_and]
  exact decide_eq_true (by omega)
theorem eqvAll_int : ∀ a b : List Int, PyData.eqvAll (a.map .int) (b.map .int) = decide (a = b)
  | [], [] => by simp [PyData.eqvAll]
  | [], _ :: _ => by simp [PyData.eqvAll]
  | _ :: _, [] => by simp [PyData.eqvAll]
  | x :: a, y :: b => by
    simp only [List.map_cons, PyData.eqvAll, eqvAll_int a b, PyData.eqv]
    by_cases h : x = y
    · subst h; simp
    · simp [h]
theorem eqvI (a b : List Int) : PyData.eqv (dI a) (dI b) = decide (a = b) := by
  unfold dI
  simp only [PyData.eqv]
  exact eqvAll_int a b
/-- == and != of lists of ints: each a name's list, or a new one -/
def IL (K : PySem.W.Frag) (te : TE) (σ : L2.St) (H : Hp) (ns : List Int) : Prop := EvP te σ H (IsD K (dI ns))
theorem il_v {a : Addr} {ns : List Int} (h : Ev te σ H (.ref a)) (hs : SqL K H a (ns.map V.int)) : IL K te σ H ns := ep_ev h fun H1 e => dpI (ex_l e hs)
theorem il_n {ns : List Int} (h : EvL te σ H (ns.map V.int)) : IL K te σ H ns := ep_el h fun a H1 _ h1 => dpI (sq_of h1)
theorem ev_eqI {a b : List Int} (ha : IL K ta σ H a) (hb : IL K tb σ H b) : Ev (tOp (rEqD K) ta tb) σ H (.bl (decide (a = b))) := by
  have := ev_eqD ha hb (shI a) (shI b)
  rw [eqvI] at this
  exact this
theorem ev_neI {a b : List Int} (ha : IL K ta σ H a) (hb : IL K tb σ H b) : Ev (tOp (rNeD K) ta tb) σ H (.bl (!decide (a = b))) := by
  have := ev_neD ha hb (shI a) (shI b)
  rw [eqvI] at this
  exact this
/-! built-ins -/
theorem ev_isi {c : String} {ty : Value} {b : Bool} (ha : Ev ta σ H x) (hb : Ev tb σ H (.ty c)) (hty : ∀ H1, Ex H H1 → TyX K H1 x ty) (hk : PySem.W.kitOne K ty (.type c) = some b) : Ev (tCB (rIsi K) (tCons ta (tCons tb tNil))) σ H (.bl b) := fun H1 e Q q =>
  ha H1 e _ fun H2 e2 => hb H2 (e.trans e2) _ fun H3 e3 => ⟨x, .ty c, ty, .type c, b, rfl, .ty c, hty H3 ((e.trans e2).trans e3), hk, q H3 (e2.trans e3)⟩
theorem ty_int {i : Int} : ∀ H1, Ex H H1 → TyX K H1 (.int i) (.type "int") := fun _ _ => .base (.int i)
theorem ty_bl {b : Bool} : ∀ H1, Ex H H1 → TyX K H1 (.bl b) (.type "bool") := fun _ _ => .base (.bl b)
theorem ty_str {z : Str} : ∀ H1, Ex H H1 → TyX K H1 (.str z) (.type "str") := fun _ _ => .base (.str z)
theorem ty_lst {a : Addr} {xs : List V} (h : H a = some (.lst xs)) : ∀ H1, Ex H H1 → TyX K H1 (.ref a) (.type "list") := fun _ e => .base (.lst (e a _ h))
theorem ev_sum {a : Addr} {ns : List Int} (ha : Ev ta σ H (.ref a)) (h : SqL K H a (ns.map V.int)) : Ev (tCB (rSum K) (tCons ta tNil)) σ H (.int ns.sum) := fun H1 e Q q =>
  ha H1 e _ fun H2 e2 => ⟨a, ns, rfl, ex_l (e.trans e2) h, q H2 e2⟩
theorem ev_sumN {ns : List Int} (ha : EvL ta σ H (ns.map V.int)) : Ev (tCB (rSum K) (tCons ta tNil)) σ H (.int ns.sum) := fun H1 e Q q =>
  ha H1 e _ fun p H2 _ e2 h2 => ⟨p, ns, rfl, sq_of h2, q H2 e2⟩
theorem ev_allN {bs : List Bool} (ha : EvL ta σ H (bs.map V.bl)) : Ev (tCB (rAll K) (tCons ta tNil)) σ H (.bl (bs.all id)) := fun H1 e Q q =>
  ha H1 e _ fun p H2 _ e2 h2 => ⟨p, bs, rfl, sq_of h2, q H2 e2⟩
theorem ev_anyN {bs : List Bool} (ha : EvL ta σ H (bs.map V.bl)) : Ev (tCB (rAny K) (tCons ta tNil)) σ H (.bl (bs.any id)) := fun H1 e Q q =>
  ha H1 e _ fun p H2 _ e2 h2 => ⟨p, bs, rfl, sq_of h2, q H2 e2⟩
theorem ev_lenS {z : Str} (ha : Ev ta σ H (.str z)) (hz : z.length ≤ 100000) : Ev (tCB (fun xs H Q => ∃ z, xs = [.str z] ∧ z.length ≤ sizeLine ∧ Q (.int z.length) H) (tCons ta tNil)) σ H (.int (z.length : Int)) := fun H1 e Q q =>
  ha H1 e _ fun H2 e2 => ⟨z, rfl, sz_of hz, q H2 e2⟩
theorem ev_int_b {b : Bool} (ha : Ev ta σ H (.bl b)) : Ev (tCB (fun xs H Q => (∃ i, xs = [.int i] ∧ Q (.int i) H) ∨ ∃ k, xs = [.bl k] ∧ Q (.int (if k then 1 else 0)) H) (tCons ta tNil)) σ H (.int (if b then 1 else 0)) := fun H1 e Q q =>
  ha H1 e _ fun H2 e2 => .inr ⟨b, rfl, q H2 e2⟩
/-! lists -/
theorem el_cat {l : Addr} {xs ys : List V} (ha : Ev ta σ H (.ref l)) (hl : H l = some (.lst xs)) (hb : EvL tb σ H ys) (hz : xs.length + ys.length ≤ 100000) : EvL (tOp rCat ta tb) σ H (xs ++ ys) := fun H1 e Q q =>
  ha H1 e _ fun H2 e2 => hb H2 (e.trans e2) _ fun p H3 hp e3 h3 => ⟨l, p, xs, ys, rfl, rfl, e3 l _ (e2 l _ (e l _ hl)), h3, sz_of hz, fun b hb' => q b _ (fresh_back (e2.trans e3) hb') ((e2.trans e3).trans (Ex.new hb')) upd_same⟩
theorem el_catN {xs ys : List V} (ha : EvL ta σ H xs) (hb : EvL tb σ H ys) (hz : xs.length + ys.length ≤ 100000) : EvL (tOp rCat ta tb) σ H (xs ++ ys) := fun H1 e Q q =>
  ha H1 e _ fun l H2 hl e2 h2 => hb H2 (e.trans e2) _ fun p H3 hp e3 h3 => ⟨l, p, xs, ys, rfl, rfl, e3 l _ h2, h3, sz_of hz, fun b hb' => q b _ (fresh_back (e2.trans e3) hb') ((e2.trans e3).trans (Ex.new hb')) upd_same⟩
theorem el_rep {xs : List V} {k : Int} (ha : EvL ta σ H xs) (hb : Ev tb σ H (.int k)) (h0 : -100000 ≤ k ∧ k ≤ 100000) (hz : xs.length * k.toNat ≤ 100000) : EvL (tOp rRep ta tb) σ H (List.replicate k.toNat xs).flatten := fun H1 e Q q =>
  ha H1 e _ fun l H2 hl e2 h2 => hb H2 (e.trans e2) _ fun H3 e3 => ⟨l, k, xs, rfl, rfl, e3 l _ h2, by omega, by omega, sz_of hz, fun b hb' => q b _ (fresh_back (e2.trans e3) hb') ((e2.trans e3).trans (Ex.new hb')) upd_same⟩
theorem rep1 {α : Type} (x : α) : ∀ n : Nat, (List.replicate n [x]).flatten = List.replicate n x
  | 0 => rfl
  | n + 1 => by rw [List.replicate_succ, List.flatten_cons, rep1 x n, List.replicate_succ]; rfl
theorem el_sortR {tk : TA} {ns ms : List Int} (ha : EvL ta σ H (ns.map V.int)) (hk : EvA tk σ H [.bl true]) (hm : ∀ ns' : List Int, ns'.Perm ns → ns'.Pairwise (· ≥ ·) → ns' = ms) : EvL (tCKw (rSortedKw K true [.bl true]) (tCons ta tNil) tk) σ H (ms.map V.int) := fun H1 e Q q =>
  ha H1 e _ fun l H2 hl e2 h2 => hk H2 (e.trans e2) _ fun H3 e3 => ⟨l, ns, rfl, rfl, sq_of (e3 l _ h2), fun ns' p hp ho hn => by
    rw [hm ns' hp ho]
    exact q p _ (fresh_back (e2.trans e3) hn) ((e2.trans e3).trans (Ex.new hn)) upd_same⟩
theorem el_sortRv {tk : TA} {a : Addr} {ns ms : List Int} (ha : Ev ta σ H (.ref a)) (hs : SqL K H a (ns.map V.int)) (hk : EvA tk σ H [.bl true]) (hm : ∀ ns' : List Int, ns'.Perm ns → ns'.Pairwise (· ≥ ·) → ns' = ms) : EvL (tCKw (rSortedKw K true [.bl true]) (tCons ta tNil) tk) σ H (ms.map V.int) := fun H1 e Q q =>
  ha H1 e _ fun H2 e2 => hk H2 (e.trans e2) _ fun H3 e3 => ⟨a, ns, rfl, rfl, ex_l ((e.trans e2).trans e3) hs, fun ns' p hp ho hn => by
    rw [hm ns' hp ho]
    exact q p _ (fresh_back (e2.trans e3) hn) ((e2.trans e3).trans (Ex.new hn)) upd_same⟩
/-! comprehensions over a list that is the image of ys -/
theorem given_map {α : Type} (p : α → Bool) (g : α → V) : ∀ (ys : List α) (k : Nat), k ≤ ys.length → given k (fun i => (ys[i]?.map p).getD false) (fun i => (ys[i]?.map g).getD .non) = ((ys.take k).filter p).map g
  | ys, 0, _ => by simp [given]
  | ys, k + 1, hk => by
    have ih := given_map p g ys k (by omega)
    have hlt : k < ys.length := by omega
    have e : ys[k]? = some ys[k] := List.getElem?_eq_getElem hlt
    rw [List.take_add_one, e, List.filter_append, List.map_append]
    cases hp : p ys[k] with
    | true =>
      rw [given_yes (by simp [e, hp]), ih]
      simp [e, hp]
    | false =>
      rw [given_no (by simp [e, hp]), ih]
      simp [e, hp]
theorem el_lcM {α : Type} {inj : α → V} {ys : List α} {a : Addr} {tl : TE} {j : Nat} {vs : List Nat} (p : α → Bool) (g : α → V) (h : Ev tl σ H (.ref a)) (hx : SqL K H a (ys.map inj)) (hz : ys.length ≤ 40000) (hw : ∀ x, wipe ((wipe σ vs).set j (some x)) vs = wipe σ vs)
    (ht : ∀ (y : α) H1, Ex H H1 → y ∈ ys → EvT t ((wipe σ vs).set j (some (inj y))) H1 (p y)) (he : ∀ (y : α) H1, Ex H H1 → y ∈ ys → p y = true → Ev te ((wipe σ vs).set j (some (inj y))) H1 (g y)) :
    EvL (tLc (iList K tl) (gName j) t te vs) σ H ((ys.filter p).map g) := by
  have hg := given_map p g ys ys.length (Nat.le_refl _)
  rw [List.take_length] at hg
  rw [← hg, ← List.length_map (f := inj) (as := ys)]
  have key : ∀ (i : Nat) (x : V), (ys.map inj)[i]? = some x → ∃ y, ys[i]? = some y ∧ x = inj y ∧ y ∈ ys := fun i x hi => by
    rw [List.getElem?_map] at hi
    obtain ⟨y, hy, e⟩ := Option.map_eq_some_iff.mp hi
    exact ⟨y, hy, e.symm, List.mem_of_getElem? hy⟩
  refine el_lcL _ _ h hx (by rw [List.length_map]; exact hz) hw (fun i x H1 e hi => ?_) (fun i x H1 e hi hf => ?_)
  · obtain ⟨y, hy, rfl, hm⟩ := key i x hi
    rw [hy]
    exact ht y H1 e hm
  · obtain ⟨y, hy, rfl, hm⟩ := key i x hi
    rw [hy] at hf ⊢
    exact he y H1 e hm hf
theorem el_lcNM {α : Type} {inj : α → V} {ys : List α} {tl : TE} {j : Nat} {vs : List Nat} (p : α → Bool) (g : α → V) (h : EvL tl σ H (ys.map inj)) (hz : ys.length ≤ 40000) (hw : ∀ x, wipe ((wipe σ vs).set j (some x)) vs = wipe σ vs)
    (ht : ∀ (y : α) H1, Ex H H1 → y ∈ ys → EvT t ((wipe σ vs).set j (some (inj y))) H1 (p y)) (he : ∀ (y : α) H1, Ex H H1 → y ∈ ys → p y = true → Ev te ((wipe σ vs).set j (some (inj y))) H1 (g y)) :
    EvL (tLc (iList K tl) (gName j) t te vs) σ H ((ys.filter p).map g) := by
  have hg := given_map p g ys ys.length (Nat.le_refl _)
  rw [List.take_length] at hg
  rw [← hg, ← List.length_map (f := inj) (as := ys)]
  have key : ∀ (i : Nat) (x : V), (ys.map inj)[i]? = some x → ∃ y, ys[i]? = some y ∧ x = inj y ∧ y ∈ ys := fun i x hi => by
    rw [List.getElem?_map] at hi
    obtain ⟨y, hy, e⟩ := Option.map_eq_some_iff.mp hi
    exact ⟨y, hy, e.symm, List.mem_of_getElem? hy⟩
  refine el_lcNL _ _ h (by rw [List.length_map]; exact hz) hw (fun i x H1 e hi => ?_) (fun i x H1 e hi hf => ?_)
  · obtain ⟨y, hy, rfl, hm⟩ := key i x hi
    rw [hy]
    exact ht y H1 e hm
  · obtain ⟨y, hy, rfl, hm⟩ := key i x hi
    rw [hy] at hf ⊢
    exact he y H1 e hm hf
theorem filter_true {α : Type} (l : List α) : l.filter (fun _ => true) = l := List.filter_eq_self.mpr fun _ _ => rfl
/-- every item -/
theorem et_yes : EvT tYes σ H true := fun H1 _ _ q => q H1 (Ex.refl H1)
/-- over range(lo, hi) -/
theorem el_lcR2 {ta : TA} {j : Nat} {vs : List Nat} {lo n : Int} (v : Nat → V) (h : EvA ta σ H [.int lo, .int n]) (hn : 0 ≤ lo ∧ lo ≤ 30000 ∧ -30000 ≤ n ∧ n ≤ 30000) (hw : ∀ x, wipe ((wipe σ vs).set j (some x)) vs = wipe σ vs)
    (he : ∀ (i : Nat) H1, Ex H H1 → lo + (i : Int) < n → Ev te ((wipe σ vs).set j (some (.int (lo + (i : Int))))) H1 (v i)) :
    EvL (tLc (iRng2 ta) (gName j) tYes te vs) σ H ((List.range (n - lo).toNat).map v) := fun H0 e Q q => h H0 e _ fun H1 e1 => ⟨lo, n, rfl, ⟨by omega, by omega, by omega, by omega⟩, fun Dl hD => by
  have eg : (List.range (n - lo).toNat).map v = given (n - lo).toNat (fun _ => true) v := by unfold given; rw [filter_true]
  rw [eg] at q
  exact lc_range (lo := lo) (n := (n - lo).toNat) (Cw H1 (fun _ => true) v Dl) ⟨hD, Ex.new hD, upd_same⟩ (fun i H' hi p => ⟨hw _, cw_turn p (by omega) et_yes (fun _ => he i H1 (e.trans e1) (by omega))⟩) (fun H' p => q Dl H' (fresh_back e1 p.1) (e1.trans p.2.1) p.2.2)⟩
end
end Evl
namespace Evl
open PySem L2
section
variable {K : PySem.W.Frag} {σ : L2.St} {H H' : Hp} {ta tb tc te tx : TE} {t u : TT} {x y z v : V} {r : R2} {P : V → Hp → Prop}
theorem ev_opI {C : Int → Int → Prop} {g : Int → Int → V} {i j : Int} (ha : Ev ta σ H (.int i)) (hb : Ev tb σ H (.int j)) (hc : C i j) : Ev (tOp (rI C g) ta tb) σ H (g i j) := ev_op ha hb (rv_I hc)
theorem ev_opI0 {g : Int → Int → V} {i j : Int} (ha : Ev ta σ H (.int i)) (hb : Ev tb σ H (.int j)) : Ev (tOp (rI0 g) ta tb) σ H (g i j) := ev_op ha hb rv_I0
theorem ev_eqS (ha : Ev ta σ H x) (hb : Ev tb σ H y) (hs : scal x y = true) : Ev (tOp rEq ta tb) σ H (.bl (decide (x = y))) := ev_op ha hb (rv_eq hs)
theorem ev_neS (ha : Ev ta σ H x) (hb : Ev tb σ H y) (hs : scal x y = true) : Ev (tOp rNe ta tb) σ H (.bl (!decide (x = y))) := ev_op ha hb (rv_ne hs)
theorem ev_ifI {b : Bool} {i j : Int} (h : EvT t σ H b) (h1 : b = true → Ev ta σ H (.int i)) (h2 : b = false → Ev tb σ H (.int j)) : Ev (tIf t ta tb) σ H (.int (if b then i else j)) :=
  ev_if h (fun e => by subst e; exact h1 rfl) (fun e => by subst e; exact h2 rfl)
theorem ev_ifS {b : Bool} {i j : Str} (h : EvT t σ H b) (h1 : b = true → Ev ta σ H (.str i)) (h2 : b = false → Ev tb σ H (.str j)) : Ev (tIf t ta tb) σ H (.str (if b then i else j)) :=
  ev_if h (fun e => by subst e; exact h1 rfl) (fun e => by subst e; exact h2 rfl)
theorem ev_neg {i : Int} (h : Ev ta σ H (.int i)) : Ev (tUn (rU fun i => .int (-i)) ta) σ H (.int (-i)) := ev_un h ru_neg
theorem ev_ixLv {p : Addr} {xs : List V} {i : Int} (ha : Ev ta σ H (.ref p)) (hb : Ev tb σ H (.int i)) (h : SqL K H p xs) (he : atI xs i = some v) : Ev (tOp (rIxL K) ta tb) σ H v := ev_op ha hb (rv_ixL h he)
theorem ev_addS {a b : Str} (ha : Ev ta σ H (.str a)) (hb : Ev tb σ H (.str b)) (hz : a.length + b.length ≤ 100000) : Ev (tOp (fun x y H Q => ∃ i j, x = .str i ∧ y = .str j ∧ i.length + j.length ≤ sizeLine ∧ Q (.str (i ++ j)) H) ta tb) σ H (.str (a ++ b)) := fun H1 e Q q =>
  ha H1 e _ fun H2 e2 => hb H2 (e.trans e2) _ fun H3 e3 => ⟨a, b, rfl, rfl, sz_of hz, q H3 (e2.trans e3)⟩
theorem ev_slS {tl th : TO} {a : Str} {lo hi : Option Int} (h : Ev te σ H (.str a)) (h1 : EvO tl σ H lo) (h2 : EvO th σ H hi) (hz : a.length ≤ 100000) : Ev (tSl rSlS te tl th) σ H (.str (cutS a lo hi)) := fun H1 e _ q =>
  h H1 e _ fun H2 e2 => h1 H2 (e.trans e2) _ fun H3 e3 => h2 H3 ((e.trans e2).trans e3) _ fun H4 e4 => ⟨a, rfl, sz_of hz, q H4 ((e2.trans e3).trans e4)⟩
theorem ev_cnt {a b : Str} (ha : Ev ta σ H (.str a)) (hb : Ev tb σ H (.str b)) : Ev (tM1 (fun x xs H Q => ∃ a b, x = .str a ∧ xs = [.str b] ∧ Q (.int (Txt.count a b)) H) ta tb) σ H (.int (Txt.count a b)) := fun H1 e Q q =>
  ha H1 e _ fun H2 e2 => ⟨⟨a, rfl⟩, hb H2 (e.trans e2) _ fun H3 e3 => ⟨a, b, rfl, rfl, q H3 (e2.trans e3)⟩⟩
theorem ev_chain {r' : R2} {b c : Bool} (ha : Ev ta σ H x) (hb : Ev tb σ H y) (hr : RV r x y H (.bl b)) (hc : Ev tc σ H z) (hr' : b = true → RV r' y z H (.bl c)) : Ev (tChain r r' ta tb tc) σ H (.bl (b && c)) := fun H1 e Q q =>
  ha H1 e _ fun H2 e2 => hb H2 (e.trans e2) _ fun H3 e3 => hr H3 ((e.trans e2).trans e3) _ fun H4 e4 => ⟨b, rfl, by
    have e14 := (e2.trans e3).trans e4
    cases b with
    | true =>
      show tc σ H4 _
      exact hc H4 (e.trans e14) _ fun H5 e5 => hr' rfl H5 ((e.trans e14).trans e5) Q fun H6 e6 => q H6 ((e14.trans e5).trans e6)
    | false =>
      show Q (.bl false) H4
      exact q H4 e14⟩
theorem ev_join {a : Addr} {zs : List Str} {s : Str} (hs : Ev ta σ H (.str s)) (ha : Ev tb σ H (.ref a)) (h : SqL K H a (zs.map V.str)) (hz : (zs.map (·.length)).sum + zs.length * s.length ≤ 16777216) :
    Ev (tM1 (fun x xs H Q => ∃ a p, ∃ ys : List Str, x = .str a ∧ xs = [.ref p] ∧ (SqL K H p (ys.map V.str) ∨ SqT K H p (ys.map V.str)) ∧ (ys.map (·.length)).sum + ys.length * a.length ≤ 16777216 ∧ Q (.str (Txt.join a ys)) H) ta tb) σ H (.str (Txt.join s zs)) := fun H1 e Q q =>
  hs H1 e _ fun H2 e2 => ⟨⟨s, rfl⟩, ha H2 (e.trans e2) _ fun H3 e3 => ⟨s, a, zs, rfl, rfl, .inl (ex_l ((e.trans e2).trans e3) h), hz, q H3 (e2.trans e3)⟩⟩
/-! all, any of a comprehension -/
theorem ev_allM {α : Type} {inj : α → V} {ys : List α} {a : Addr} {tl : TE} {j : Nat} {vs : List Nat} (g : α → Bool) (h : Ev tl σ H (.ref a)) (hx : SqL K H a (ys.map inj)) (hz : ys.length ≤ 40000) (hw : ∀ x, wipe ((wipe σ vs).set j (some x)) vs = wipe σ vs)
    (he : ∀ (y : α) H1, Ex H H1 → y ∈ ys → Ev te ((wipe σ vs).set j (some (inj y))) H1 (.bl (g y))) : Ev (tCB (rAll K) (tCons (tLc (iList K tl) (gName j) tYes te vs) tNil)) σ H (.bl (ys.all g)) := by
  have h1 := el_lcM (K := K) (t := tYes) (te := te) (fun _ => true) (fun y => V.bl (g y)) h hx hz hw (fun _ _ _ _ => et_yes) (fun y H1 e hy _ => he y H1 e hy)
  rw [filter_true, ← Function.comp_def V.bl g, ← List.map_map] at h1
  have h2 := ev_allN (K := K) h1
  rw [List.all_map] at h2
  exact h2
theorem ev_anyR2 {ta : TA} {j : Nat} {vs : List Nat} {lo n : Int} (g : Nat → Bool) (h : EvA ta σ H [.int lo, .int n]) (hn : 0 ≤ lo ∧ lo ≤ 30000 ∧ -30000 ≤ n ∧ n ≤ 30000) (hw : ∀ x, wipe ((wipe σ vs).set j (some x)) vs = wipe σ vs)
    (he : ∀ (i : Nat) H1, Ex H H1 → lo + (i : Int) < n → Ev te ((wipe σ vs).set j (some (.int (lo + (i : Int))))) H1 (.bl (g i))) :
    Ev (tCB (rAny K) (tCons (tLc (iRng2 ta) (gName j) tYes te vs) tNil)) σ H (.bl ((List.range (n - lo).toNat).any g)) := by
  have h1 := el_lcR2 (fun i => V.bl (g i)) h hn hw he
  rw [← Function.comp_def V.bl g, ← List.map_map] at h1
  have h2 := ev_anyN (K := K) h1
  rw [List.any_map] at h2
  exact h2
/-! loops over enumerate -/
theorem q_forEN {xs : List V} {tl : TE} {i1 i2 : Nat} {D : Ends} {tu tz : TS} (h : EvL tl σ H xs) (Pv : Addr → Nat → L2.St → Hp → Prop) (h0 : ∀ p H1, H p = none → Ex H H1 → H1 p = some (.lst xs) → Pv p 0 σ H1) (hl : ∀ p i σ' H', i ≤ xs.length → Pv p i σ' H' → SqL K H' p xs)
    (hs : ∀ p (i : Nat) x T σ' H', xs[i]? = some x → Pv p i σ' H' → H' T = none → tu { D with nx := Pv p (i + 1), ct := Pv p (i + 1), bk := tz D } ((σ'.set i1 (some (.int (i : Nat)))).set i2 (some x)) (upd H' T (.tup [.int (i : Nat), x])))
    (hd : ∀ p σ' H', Pv p xs.length σ' H' → tz D σ' H') : tSeq (tFor (iEnum K (tCons tl tNil)) (gTup K 2 (gCons (gName i1) (gCons (gName i2) gNil))) tu) tz D σ H :=
  h H (Ex.refl H) _ fun p H1 hp e h1 => ⟨p, xs, rfl, sq_of h1, for_it (D := { D with nx := tz D }) (walk_enum (K := K) (a := p) (xs := xs)) (Pv p) (h0 p H1 hp e h1) (hl p) (fun i v σ' H' H'' hi pv y => by
    obtain ⟨T, x1, x2, rfl, hT, rfl, e1, e2⟩ := y
    cases e1
    exact ⟨T, [.int (i : Nat), x2], rfl, .inl (.inl upd_same), rfl, .int (i : Nat), [x2], rfl, x2, [], rfl, rfl, hs p i x2 T σ' H' e2 pv hT⟩) (hd p)⟩
theorem q_forE {a : Addr} {xs : List V} {tl : TE} {i1 i2 : Nat} {D : Ends} {tu tz : TS} (h : Ev tl σ H (.ref a)) (hx : SqL K H a xs) (Pv : Nat → L2.St → Hp → Prop) (h0 : ∀ H1, Ex H H1 → Pv 0 σ H1) (hl : ∀ i σ' H', i ≤ xs.length → Pv i σ' H' → SqL K H' a xs)
    (hs : ∀ (i : Nat) x T σ' H', xs[i]? = some x → Pv i σ' H' → H' T = none → tu { D with nx := Pv (i + 1), ct := Pv (i + 1), bk := tz D } ((σ'.set i1 (some (.int (i : Nat)))).set i2 (some x)) (upd H' T (.tup [.int (i : Nat), x])))
    (hd : ∀ σ' H', Pv xs.length σ' H' → tz D σ' H') : tSeq (tFor (iEnum K (tCons tl tNil)) (gTup K 2 (gCons (gName i1) (gCons (gName i2) gNil))) tu) tz D σ H :=
  h H (Ex.refl H) _ fun H1 e => ⟨a, xs, rfl, ex_l e hx, for_it (D := { D with nx := tz D }) (walk_enum (K := K) (a := a) (xs := xs)) Pv (h0 H1 e) hl (fun i v σ' H' H'' hi pv y => by
    obtain ⟨T, x1, x2, rfl, hT, rfl, e1, e2⟩ := y
    cases e1
    exact ⟨T, [.int (i : Nat), x2], rfl, .inl (.inl upd_same), rfl, .int (i : Nat), [x2], rfl, x2, [], rfl, rfl, hs i x2 T σ' H' e2 pv hT⟩) hd⟩
/-- [e for i, c in enumerate(text)] -/
theorem el_lcES {w : Str} {i1 i2 : Nat} {vs : List Nat} (g : Nat → Nat → V) (h : Ev ta σ H (.str w)) (hz : w.cps.size ≤ 40000) (hw : ∀ x y, wipe (((wipe σ vs).set i1 (some x)).set i2 (some y)) vs = wipe σ vs)
    (he : ∀ (i c : Nat) H1, Ex H H1 → w.cps[i]? = some c → Ev te (((wipe σ vs).set i1 (some (.int (i : Nat)))).set i2 (some (.str ⟨#[c]⟩))) H1 (g i c)) :
    EvL (tLc (iEnumS (tCons ta tNil)) (gTup K 2 (gCons (gName i1) (gCons (gName i2) gNil))) tYes te vs) σ H ((List.range w.cps.size).map fun i => g i (w.cps.getD i 0)) := fun H0 e Q q => h H0 e _ fun H1 e1 => ⟨w, rfl, fun Dl hD => by
  have eg : ((List.range w.cps.size).map fun i => g i (w.cps.getD i 0)) = given w.cps.size (fun _ => true) (fun i => g i (w.cps.getD i 0)) := by unfold given; rw [filter_true]
  rw [eg] at q
  refine lc_it walk_enumS (Cw H1 (fun _ => true) (fun i => g i (w.cps.getD i 0)) Dl) ⟨hD, Ex.new hD, upd_same⟩ (fun _ _ _ _ => trivial) (fun i v H' H'' hi p y => ?_) (fun H' p => q Dl H' (fresh_back e1 p.1) (e1.trans p.2.1) p.2.2)
  obtain ⟨T, c, rfl, hT, rfl, hc⟩ := y
  have p2 : Cw H1 (fun _ => true) (fun i => g i (w.cps.getD i 0)) Dl i (upd H' T (.tup [.int (i : Nat), .str ⟨#[c]⟩])) := ⟨p.1, p.2.1.trans (Ex.new hT), by rw [upd_ne (ne_of_none p.2.2 hT)]; exact p.2.2⟩
  refine ⟨T, [.int (i : Nat), .str ⟨#[c]⟩], rfl, .inl (.inl upd_same), rfl, .int (i : Nat), [.str ⟨#[c]⟩], rfl, .str ⟨#[c]⟩, [], rfl, rfl, hw _ _, cw_turn p2 (by omega) et_yes (fun _ => ?_)⟩
  have ec : w.cps.getD i 0 = c := by simp [Array.getD, Array.getElem?_eq_some_iff] at hc ⊢; obtain ⟨h1, h2⟩ := hc; simp [h1, h2]
  show Ev te _ H1 (g i (w.cps.getD i 0))
  rw [ec]
  exact he i c H1 (e.trans e1) hc⟩
end
end Evl
namespace L2
open PySem PySem.Spec PyProof.Rows
theorem pg_tupK {K : PySem.W.Frag} {X : Cx} {es : List Expr} {k n : Nat} {pos : Pos} {t : TGs} (hK : X.K = K) (hc : X.calm = true) (h : PGs X es t)
    (hn : (assignEach es X.env).length = n := by rfl) (hst : (assignEach es X.env).findIdx? (·.1) = none := by rfl) : PG X (.Tuple es k pos) (gTup K n t) := by
  subst hK
  exact pg_tup hc h hn hst
end L2
namespace Ch
open PySem L2
/-- heaps as a list's items -/
def LI (ns : List Nat) : List V := (cl ns).map V.int
theorem LI_len (ns : List Nat) : (LI ns).length = ns.length := by unfold LI; rw [List.length_map, cl_len]
/-! marks as texts: x 120, - 45 -/
def sg (b : Bool) : Nat := if b then 120 else 45
def mk (bs : List Bool) : Str := ⟨(bs.map sg).toArray⟩
theorem mk_cps (bs : List Bool) : (mk bs).cps.toList = bs.map sg := rfl
theorem mk_len (bs : List Bool) : (mk bs).length = bs.length := by
  show (bs.map sg).toArray.size = _
  simp
theorem mk_size (bs : List Bool) : (mk bs).cps.size = bs.length := mk_len bs
theorem mk_nil : mk [] = ("" : Str) := by decide +kernel
theorem sg_inj {a b : Bool} (h : sg a = sg b) : a = b := by cases a <;> cases b <;> first | rfl | (exfalso; revert h; decide)
theorem mk_inj {a b : List Bool} (h : mk a = mk b) : a = b := by
  have h1 : (mk a).cps.toList = (mk b).cps.toList := by rw [h]
  rw [mk_cps, mk_cps] at h1
  revert h1
  clear h
  induction a generalizing b with
  | nil => intro h; cases b with
    | nil => rfl
    | cons _ _ => cases h
  | cons x a ih => intro h; cases b with
    | nil => cases h
    | cons y b =>
      rw [List.map_cons, List.map_cons] at h
      injection h with h1 h2
      rw [sg_inj h1, ih h2]
theorem mk_eq_nil {bs : List Bool} : mk bs = ("" : Str) ↔ bs = [] := ⟨fun h => mk_inj (h.trans mk_nil.symm), fun h => by rw [h]; exact mk_nil⟩
theorem mk_append (a b : List Bool) : mk a ++ mk b = mk (a ++ b) := by
  show Str.mk ((a.map sg).toArray ++ (b.map sg).toArray) = Str.mk ((a ++ b).map sg).toArray
  rw [List.map_append]
  simp
theorem cut_drop {bs : List Bool} {k : Int} {n : Nat} (hk : k = (n : Int)) (hn : n ≤ bs.length) : cutS (mk bs) (some k) none = mk (bs.drop n) := by
  unfold cutS
  rw [mk_len, mk_cps, hk, HT.sIx_nat, HT.sIx_none, Nat.min_eq_left hn, ← List.map_drop, List.take_of_length_le (by simp)]
  rfl
theorem cut_take {bs : List Bool} {k : Int} {n : Nat} (hk : k = (n : Int)) (hn : n ≤ bs.length) : cutS (mk bs) none (some k) = mk (bs.take n) := by
  unfold cutS
  rw [mk_len, mk_cps, hk, HT.sIx_nat, HT.sIx_none, Nat.min_eq_left hn, List.drop_zero, Nat.sub_zero, ← List.map_take]
  rfl
theorem mk_at {bs : List Bool} {i c : Nat} (h : (mk bs).cps[i]? = some c) : ∃ b, bs[i]? = some b ∧ c = sg b := by
  have h1 : (bs.map sg)[i]? = some c := by
    have : (mk bs).cps[i]? = (mk bs).cps.toList[i]? := by simp
    rw [this, mk_cps] at h
    exact h
  rw [List.getElem?_map] at h1
  obtain ⟨b, hb, e⟩ := Option.map_eq_some_iff.mp h1
  exact ⟨b, hb, e.symm⟩
theorem sg_x : ("x" : Str) = ⟨#[120]⟩ := by decide +kernel
theorem sg_x2 (b : Bool) : (⟨#[sg b]⟩ : Str) = ("x" : Str) ↔ b = true := by
  rw [sg_x]
  cases b
  · simp [sg]
  · simp [sg]
/-! how many x -/
theorem chain_count (x : Str) (c : Nat) : ∀ (cuts : List Nat) (a f : Nat), StrLaws.ChainG x ⟨#[c]⟩ x.length a cuts f → (∀ k, f ≤ k → ¬ StrLaws.At x ⟨#[c]⟩ x.length k) → cuts.length = (x.cps.toList.drop a).count c
  | [], a, f, h, hn => by
    have e : f = a := h
    subst e
    symm
    rw [List.length_nil, List.count_eq_zero]
    intro hm
    obtain ⟨j, hj⟩ := List.getElem?_of_mem hm
    rw [List.getElem?_drop] at hj
    exact hn (f + j) (by omega) ((StrLaws.subAt_one x c (f + j)).mpr hj)
  | d :: r, a, f, h, hn => by
    obtain ⟨h1, h2, h3, h4⟩ := h
    have ih := chain_count x c r (d + (⟨#[c]⟩ : Str).length) f h4 hn
    have h5 := (StrLaws.subAt_one x c d).mp h2
    have e1 : (⟨#[c]⟩ : Str).length = 1 := rfl
    rw [e1] at ih
    have hd : x.cps.toList.drop a = (x.cps.toList.drop a).take (d - a) ++ c :: x.cps.toList.drop (d + 1) := by
      have hlt : d < x.cps.toList.length := (List.getElem?_eq_some_iff.mp h5).1
      have hc : x.cps.toList[d] = c := (List.getElem?_eq_some_iff.mp h5).2
      have e2 : x.cps.toList.drop d = c :: x.cps.toList.drop (d + 1) := by rw [List.drop_eq_getElem_cons hlt, hc]
      rw [← e2]
      have e3 : x.cps.toList.drop d = (x.cps.toList.drop a).drop (d - a) := by rw [List.drop_drop]; congr 1; omega
      rw [e3, List.take_append_drop]
    rw [hd, List.count_append, List.count_cons_self, List.length_cons, ih]
    have h0 : ((x.cps.toList.drop a).take (d - a)).count c = 0 := by
      rw [List.count_eq_zero]
      intro hm
      obtain ⟨j, hj⟩ := List.getElem?_of_mem hm
      have hlt : j < d - a := by
        have q : j < ((x.cps.toList.drop a).take (d - a)).length := (List.getElem?_eq_some_iff.mp hj).1
        rw [List.length_take] at q
        omega
      rw [List.getElem?_take_of_lt hlt, List.getElem?_drop] at hj
      exact h3 (a + j) (by omega) (by omega) ((StrLaws.subAt_one x c (a + j)).mpr hj)
    omega
theorem count_one (x : Str) (c : Nat) : Txt.count x ⟨#[c]⟩ = ((x.cps.toList.count c : Nat) : Int) := by
  unfold Txt.count
  obtain ⟨f, h1, h2⟩ := StrLaws.occ_tight x ⟨#[c]⟩ (Nat.le_refl 1)
  rw [chain_count x c _ 0 f h1 h2, List.drop_zero]
def nx (bs : List Bool) : Nat := bs.count true
theorem count_x (bs : List Bool) : Txt.count (mk bs) ("x" : Str) = (nx bs : Int) := by
  rw [sg_x, count_one, mk_cps]
  congr 1
  unfold nx
  induction bs with
  | nil => rfl
  | cons b r ih =>
    rw [List.map_cons, List.count_cons, List.count_cons, ih]
    cases b <;> rfl
/-! joined signs -/
theorem join_signs : ∀ bs : List Bool, Str.join ("" : Str) (bs.map fun b => (⟨#[sg b]⟩ : Str)) = mk bs
  | [] => rfl
  | [b] => rfl
  | b :: c :: r => by
    have ih := join_signs (c :: r)
    show (⟨#[sg b]⟩ : Str) ++ ("" : Str) ++ Str.join ("" : Str) ((c :: r).map fun b => (⟨#[sg b]⟩ : Str)) = mk (b :: c :: r)
    rw [ih, ← mk_nil, show (⟨#[sg b]⟩ : Str) = mk [b] from rfl, mk_append, mk_append]
    rfl
theorem joined (bs : List Bool) : Txt.join ("" : Str) (bs.map fun b => (⟨#[sg b]⟩ : Str)) = mk bs := (StrLaws.glued_eq_join _ _).trans (join_signs bs)
/-- marks, or the empty text -/
def mko : Option (List Bool) → Str
  | none => ""
  | some bs => mk bs
theorem mko_some {o : Option (List Bool)} (h : mko o ≠ ("" : Str)) : ∃ bs, o = some bs ∧ mko o = mk bs ∧ bs ≠ [] := by
  cases o with
  | none => exact absurd rfl h
  | some bs => exact ⟨bs, rfl, rfl, fun e => h (by rw [e]; exact mk_nil)⟩
theorem LI_get {ns : List Nat} {i : Nat} {x : V} (h : (LI ns)[i]? = some x) : ∃ c, ns[i]? = some c ∧ x = .int (c : Int) := by
  unfold LI cl at h
  rw [List.getElem?_map, List.getElem?_map] at h
  cases hc : ns[i]? with
  | none => rw [hc] at h; cases h
  | some c =>
    rw [hc] at h
    exact ⟨c, rfl, (Option.some.inj h).symm⟩
theorem mk_getD {bs : List Bool} {i : Nat} (hi : i < bs.length) : (mk bs).cps.getD i 0 = sg bs[i] := by
  have : (mk bs).cps.getD i 0 = ((mk bs).cps[i]?).getD 0 := by simp [Array.getD_eq_getD_getElem?]
  rw [this]
  have e : (mk bs).cps[i]? = some (sg bs[i]) := by
    show (bs.map sg).toArray[i]? = _
    simp [hi]
  rw [e]; rfl
theorem st_get : ∀ (bs : List Bool) (i : Nat) (hi : i < bs.length), (st bs)[i]? = some (bs.length - 1 - i + bs[i].toNat)
  | b :: r, 0, _ => by show some _ = some _; simp
  | b :: r, i + 1, hi => by
    have hi' : i < r.length := by simpa using hi
    show (st r)[i]? = _
    rw [st_get r i hi']
    simp only [List.length_cons, List.getElem_cons_succ]
    congr 2
    omega
theorem st_list {bs : List Bool} {n : Int} (hn : n + 1 = (bs.length : Int)) : ((List.range (mk bs).cps.size).map fun i => V.int (n - (i : Nat) + (if decide ((mk bs).cps.getD i 0 = 120) then 1 else 0))) = (cl (st bs)).map V.int := by
  refine List.ext_getElem? fun i => ?_
  rw [mk_size]
  by_cases hi : i < bs.length
  · rw [List.getElem?_map, List.getElem?_range hi, List.getElem?_map]
    unfold cl
    rw [List.getElem?_map, st_get bs i hi]
    show some (V.int (n - (i : Int) + (if decide ((mk bs).cps.getD i 0 = 120) then 1 else 0))) = some (V.int ((bs.length - 1 - i + bs[i].toNat : Nat) : Int))
    rw [mk_getD hi]
    congr 2
    cases hb : bs[i] with
    | true =>
      have e : decide (sg true = 120) = true := by decide
      rw [e]
      show n - (i : Int) + 1 = ((bs.length - 1 - i + 1 : Nat) : Int)
      omega
    | false =>
      have e : decide (sg false = 120) = false := by decide
      rw [e]
      show n - (i : Int) + 0 = ((bs.length - 1 - i + 0 : Nat) : Int)
      omega
  · rw [List.getElem?_eq_none (by simp; omega), List.getElem?_eq_none (by rw [List.length_map, cl_len, st_len]; omega)]
end Ch
namespace Evl
open PySem L2 Ch
theorem ev_sumC {K : PySem.W.Frag} {σ : L2.St} {H : Hp} {ta : TE} {a : Addr} {ns : List Nat} (ha : Ev ta σ H (.ref a)) (h : SqL K H a (LI ns)) : Ev (tCB (rSum K) (tCons ta tNil)) σ H (.int (ns.sum : Int)) := by
  rw [← cl_sum]
  exact ev_sum ha h
end Evl
/-! what is told by a word of the value and the heap -/
namespace Evl
open PySem L2 Ch
def Mo (P : V → Hp → Prop) : Prop := ∀ v H H', Ex H H' → P v H → P v H'
inductive AllP (H : Hp) : List (V → Hp → Prop) → List V → Prop
  | nil : AllP H [] []
  | cons {P : V → Hp → Prop} {Ps : List (V → Hp → Prop)} {v : V} {vs : List V} : P v H → AllP H Ps vs → AllP H (P :: Ps) (v :: vs)
def EvAP (ta : TA) (σ : L2.St) (H : Hp) (Ps : List (V → Hp → Prop)) : Prop := ∀ H1, Ex H H1 → ∀ Q : List V → Hp → Prop, (∀ vs H2, Ex H1 H2 → AllP H2 Ps vs → Q vs H2) → ta σ H1 Q
def isV (x : V) : V → Hp → Prop := fun v _ => v = x
def isN (ns : List Nat) : V → Hp → Prop := fun v H => ∃ a, v = .ref a ∧ H a = some (.lst (LI ns))
def isH : V → Hp → Prop := fun v H => ∃ a ns, v = .ref a ∧ Hs ns ∧ H a = some (.lst (LI ns))
def isL (xs : List V) : V → Hp → Prop := fun v H => ∃ a, v = .ref a ∧ H a = some (.lst xs)
/-- a list that H0 does not know -/
def isNew (H0 : Hp) (xs : List V) : V → Hp → Prop := fun v H => ∃ a, v = .ref a ∧ H0 a = none ∧ H a = some (.lst xs)
theorem mo_v {x : V} : Mo (isV x) := fun _ _ _ _ h => h
theorem mo_n {ns : List Nat} : Mo (isN ns) := fun _ _ _ e ⟨a, h1, h2⟩ => ⟨a, h1, e a _ h2⟩
theorem mo_l {xs : List V} : Mo (isL xs) := fun _ _ _ e ⟨a, h1, h2⟩ => ⟨a, h1, e a _ h2⟩
theorem mo_new {H0 : Hp} {xs : List V} : Mo (isNew H0 xs) := fun _ _ _ e ⟨a, h1, h0, h2⟩ => ⟨a, h1, h0, e a _ h2⟩
theorem mo_h : Mo isH := fun _ _ _ e ⟨a, ns, h1, hs, h2⟩ => ⟨a, ns, h1, hs, e a _ h2⟩
section
variable {K : PySem.W.Frag} {σ : L2.St} {H H' : Hp} {ta tb te tl : TE} {t : TT} {x y v : V} {P P' : V → Hp → Prop} {Ps : List (V → Hp → Prop)} {tr : TA} {sp : Sp} {E : XK}
theorem ev_bl {b b' : Bool} (h : Ev te σ H (.bl b)) (e : b = b') : Ev te σ H (.bl b') := e ▸ h
theorem ev_i {b b' : Int} (h : Ev te σ H (.int b)) (e : b = b') : Ev te σ H (.int b') := e ▸ h
theorem ev_s {b b' : Str} (h : Ev te σ H (.str b)) (e : b = b') : Ev te σ H (.str b') := e ▸ h
theorem el_is {xs ys : List V} (h : EvL te σ H xs) (e : xs = ys) : EvL te σ H ys := e ▸ h
theorem ap_nil : EvAP tNil σ H [] := fun H1 _ _ q => q [] H1 (Ex.refl H1) .nil
theorem ap_cons (m : Mo P) (h : EvP te σ H P) (hr : EvAP tr σ H Ps) : EvAP (tCons te tr) σ H (P :: Ps) := fun H1 e _ q =>
  h H1 e _ fun v H2 e2 p => hr H2 (e.trans e2) _ fun vs H3 e3 ps => q _ H3 (e2.trans e3) (.cons (m _ _ _ e3 p) ps)
theorem ap_ea {ta : TA} {vs : List V} (h : EvA ta σ H vs) : EvAP ta σ H (vs.map isV) := fun H1 e _ q => h H1 e _ fun H2 e2 => q vs H2 e2 (by
  clear q h
  induction vs with
  | nil => exact .nil
  | cons x r ih => exact .cons rfl ih)
theorem ep_v (h : Ev te σ H v) : EvP te σ H (isV v) := ep_ev h fun _ _ => rfl
theorem ep_l {xs : List V} (h : EvL te σ H xs) : EvP te σ H (isL xs) := ep_el h fun a _ _ h1 => ⟨a, rfl, h1⟩
theorem ep_n {ns : List Nat} (h : EvL te σ H (LI ns)) : EvP te σ H (isN ns) := ep_el h fun a _ _ h1 => ⟨a, rfl, h1⟩
theorem ep_new {xs : List V} (h : EvL te σ H xs) : EvP te σ H (isNew H xs) := fun H1 e Q q => h H1 e _ fun p H2 hp e2 h2 => q _ H2 e2 ⟨p, rfl, fresh_back e hp, h2⟩
theorem el_new {xs : List V} (h : ∀ H1, Ex H H1 → EvP te σ H1 (isNew H1 xs)) : EvL te σ H xs := fun H1 e Q q => h H1 e H1 (Ex.refl H1) _ fun v H2 e2 ⟨p, e3, hp, h2⟩ => by
  subst e3
  exact q p H2 hp e2 h2
theorem ep_if {b : Bool} (h : EvT t σ H b) (h1 : b = true → EvP ta σ H P) (h2 : b = false → EvP tb σ H P) : EvP (tIf t ta tb) σ H P := fun H1 e Q q => h H1 e _ fun H2 e2 => by
  cases b with
  | true => exact h1 rfl H2 (e.trans e2) Q fun v H3 e3 p => q v H3 (e2.trans e3) p
  | false => exact h2 rfl H2 (e.trans e2) Q fun v H3 e3 p => q v H3 (e2.trans e3) p
theorem ep_callP {ta : TA} (h : EvAP ta σ H Ps) (hs : ∀ H1 vs, Ex H H1 → AllP H1 Ps vs → SpP sp vs H1 P) : EvP (tCall sp [] E ta) σ H P := fun H1 e Q q =>
  h H1 e _ fun vs H2 e2 ps => by
    have := hs H2 vs (e.trans e2) ps H2 (Ex.refl H2) Q (fun v H3 e3 p => q v H3 (e2.trans e3) p) E
    rw [← List.append_nil vs] at this
    exact this
theorem el_callP {ta : TA} {xs : List V} (h : EvAP ta σ H Ps) (hs : ∀ H1 vs, Ex H H1 → AllP H1 Ps vs → SpL sp vs H1 xs) : EvL (tCall sp [] E ta) σ H xs := fun H1 e Q q =>
  h H1 e _ fun vs H2 e2 ps => by
    have := hs H2 vs (e.trans e2) ps H2 (Ex.refl H2) Q (fun p H3 hp e3 h3 => q p H3 (fresh_back e2 hp) (e2.trans e3) h3) E
    rw [← List.append_nil vs] at this
    exact this
theorem ev_callP {ta : TA} (h : EvAP ta σ H Ps) (hs : ∀ H1 vs, Ex H H1 → AllP H1 Ps vs → SpV sp vs H1 v) : Ev (tCall sp [] E ta) σ H v := fun H1 e Q q =>
  h H1 e _ fun vs H2 e2 ps => by
    have := hs H2 vs (e.trans e2) ps H2 (Ex.refl H2) Q (fun H3 e3 => q H3 (e2.trans e3)) E
    rw [← List.append_nil vs] at this
    exact this
/-- one new list of heaps handed in -/
theorem el_callN {xs : List V} {ns : List Nat} (h : EvL te σ H (LI ns)) (hs : ∀ H1 a, Ex H H1 → H1 a = some (.lst (LI ns)) → SpL sp [.ref a] H1 xs) : EvL (tCall sp [] E (tCons te tNil)) σ H xs :=
  el_callP (ap_cons mo_n (ep_n h) ap_nil) fun H1 vs e ps => by
    cases ps with
    | cons p r => cases r; obtain ⟨a, rfl, ha⟩ := p; exact hs H1 a e ha
theorem el_callN2 {xs : List V} {ns : List Nat} (h : EvL ta σ H (LI ns)) (h2 : Ev tb σ H y) (hs : ∀ H1 a, Ex H H1 → H1 a = some (.lst (LI ns)) → SpL sp [.ref a, y] H1 xs) : EvL (tCall sp [] E (tCons ta (tCons tb tNil))) σ H xs :=
  el_callP (ap_cons mo_n (ep_n h) (ap_cons mo_v (ep_v h2) ap_nil)) fun H1 vs e ps => by
    cases ps with
    | cons p r => cases r with
      | cons p2 r => cases r; obtain ⟨a, rfl, ha⟩ := p; cases p2; exact hs H1 a e ha
theorem ev_callN {ns : List Nat} (h : EvL te σ H (LI ns)) (hs : ∀ H1 a, Ex H H1 → H1 a = some (.lst (LI ns)) → SpV sp [.ref a] H1 v) : Ev (tCall sp [] E (tCons te tNil)) σ H v :=
  ev_callP (ap_cons mo_n (ep_n h) ap_nil) fun H1 vs e ps => by
    cases ps with
    | cons p r => cases r; obtain ⟨a, rfl, ha⟩ := p; exact hs H1 a e ha
theorem AllP.mono {vs : List V} {H2 : Hp} (ps : AllP H2 Ps vs) (mo : ∀ P ∈ Ps, Mo P) {H3 : Hp} (e : Ex H2 H3) : AllP H3 Ps vs := by
  induction ps with
  | nil => exact .nil
  | cons p r ih => exact .cons (mo _ List.mem_cons_self _ _ _ e p) (ih fun P hP => mo P (List.mem_cons_of_mem _ hP))
theorem AllP.len {vs : List V} {H2 : Hp} (ps : AllP H2 Ps vs) : vs.length = Ps.length := by
  induction ps with
  | nil => rfl
  | cons _ _ ih => rw [List.length_cons, List.length_cons, ih]
theorem AllP.get {vs : List V} {H2 : Hp} (ps : AllP H2 Ps vs) {i : Nat} {x : V} (h : vs[i]? = some x) : ∃ P, Ps[i]? = some P ∧ P x H2 := by
  induction ps generalizing i with
  | nil => simp at h
  | cons p r ih => cases i with
    | zero => cases h; exact ⟨_, rfl, p⟩
    | succ i => exact ih h
/-- a display -/
def isDisp (Ps : List (V → Hp → Prop)) : V → Hp → Prop := fun v H' => ∃ p xs, v = .ref p ∧ H' p = some (.lst xs) ∧ AllP H' Ps xs
theorem mo_disp (mo : ∀ P ∈ Ps, Mo P) : Mo (isDisp Ps) := fun _ _ _ e ⟨p, xs, h1, h2, h3⟩ => ⟨p, xs, h1, e p _ h2, h3.mono mo e⟩
theorem ep_lst {ta : TA} (h : EvAP ta σ H Ps) (mo : ∀ P ∈ Ps, Mo P) (hl : Ps.length ≤ 100000) : EvP (tLst ta) σ H (isDisp Ps) := fun H1 e Q q =>
  h H1 e _ fun vs H2 e2 ps => ⟨sz_of (by rw [ps.len]; exact hl), fun p hp => q _ _ (e2.trans (Ex.new hp)) ⟨p, vs, rfl, upd_same, ps.mono mo (Ex.new hp)⟩⟩
theorem q_parP {ta : TA} {i j : Nat} {tz : TS} {D : Ends} (h : EvAP ta σ H [P, P']) (k : ∀ v1 v2 H1, Ex H H1 → P v1 H1 → P' v2 H1 → tz D ((σ.set i (some v1)).set j (some v2)) H1) : tSeq (tPar i j ta) tz D σ H :=
  h H (Ex.refl H) _ fun vs H1 e ps => by
    cases ps with
    | cons p r => cases r with
      | cons p2 r => cases r; exact ⟨_, _, rfl, k _ _ H1 e p p2⟩
/-- a, b = a call's tuple -/
def isT2 (R : V → V → Hp → Prop) : V → Hp → Prop := fun v H' => ∃ t x y, v = .ref t ∧ H' t = some (.tup [x, y]) ∧ R x y H'
theorem q_asgT2 {R : V → V → Hp → Prop} {i j : Nat} {tz : TS} {D : Ends} (h : EvP te σ H (isT2 R)) (k : ∀ x y H1, Ex H H1 → R x y H1 → tz D ((σ.set i (some x)).set j (some y)) H1) : tSeq (tAsg te (gTup K 2 (gCons (gName i) (gCons (gName j) gNil)))) tz D σ H :=
  h H (Ex.refl H) _ fun v H1 e ⟨t, x, y, h1, h2, h3⟩ => by
    subst h1
    exact ⟨t, [x, y], rfl, .inl (.inl h2), rfl, x, [y], rfl, y, [], rfl, rfl, k x y H1 e h3⟩
theorem el_revL {a : Addr} {xs : List V} (h : Ev te σ H (.ref a)) (hs : SqL K H a xs) : EvL (tRevL K te) σ H xs.reverse := fun H1 e Q q =>
  h H1 e _ fun H2 e2 => ⟨a, xs, rfl, ex_l (e.trans e2) hs, fun p hp => q p _ (fresh_back e2 hp) (e2.trans (Ex.new hp)) upd_same⟩
theorem el_slN {tl th : TO} {xs : List V} {lo hi : Option Int} (h : EvL te σ H xs) (h1 : EvO tl σ H lo) (h2 : EvO th σ H hi) : EvL (tSl (rSlL K) te tl th) σ H (cutV xs lo hi) := fun H1 e _ q =>
  h H1 e _ fun a H2 ha e2 hx => h1 H2 (e.trans e2) _ fun H3 e3 => h2 H3 ((e.trans e2).trans e3) _ fun H4 e4 =>
    ⟨a, xs, rfl, sq_of (e4 a _ (e3 a _ hx)), fun p hp => q p _ (fresh_back ((e2.trans e3).trans e4) hp) (((e2.trans e3).trans e4).trans (Ex.new hp)) upd_same⟩
/-- (a, b, ..)[i] -/
theorem ev_ixTN {xs : List V} {i : Int} (ha : EvU ta σ H xs) (hb : Ev tb σ H (.int i)) (h : atI xs i = some v) : Ev (tOp (rIxT K) ta tb) σ H v := fun H1 e Q q =>
  ha H1 e _ fun p H2 _ e2 hp => hb H2 (e.trans e2) _ fun H3 e3 => ⟨p, xs, i, v, rfl, rfl, st_of (e3 p _ hp), h, q H3 (e2.trans e3)⟩
theorem cut_takeV (ns : List Int) (k : Nat) : cutV (ns.map V.int) none (some (k : Int)) = (ns.take k).map V.int := by
  unfold cutV
  rw [HT.sIx_nat, HT.sIx_none, List.drop_zero, Nat.sub_zero, List.length_map, ← List.map_take]
  congr 1
  rcases Nat.le_total k ns.length with h | h
  · rw [Nat.min_eq_left h]
  · rw [Nat.min_eq_right h, List.take_of_length_le (Nat.le_refl _), List.take_of_length_le h]
/-- a loop over a list that is told by a word -/
theorem q_forP {R : List V → Hp → Prop} {j : Nat} {tz tu : TS} {D : Ends} (h : EvP tl σ H (fun v H' => ∃ p xs, v = .ref p ∧ H' p = some (.lst xs) ∧ R xs H'))
    (Pv : Addr → List V → Nat → L2.St → Hp → Prop) (h0 : ∀ p xs H1, Ex H H1 → H1 p = some (.lst xs) → R xs H1 → Pv p xs 0 σ H1) (hl : ∀ p xs i σ' H', i ≤ xs.length → Pv p xs i σ' H' → SqL K H' p xs)
    (hs : ∀ p xs i x σ' H', xs[i]? = some x → Pv p xs i σ' H' → tu { D with nx := Pv p xs (i + 1), ct := Pv p xs (i + 1), bk := tz D } (σ'.set j (some x)) H') (hd : ∀ p xs σ' H', Pv p xs xs.length σ' H' → tz D σ' H') :
    tSeq (tFor (iList K tl) (gName j) tu) tz D σ H :=
  h H (Ex.refl H) _ fun v H1 e ⟨p, xs, h1, h2, h3⟩ => by
    subst h1
    exact ⟨p, rfl, ⟨xs, sq_of h2⟩, for_list (D := { D with nx := tz D }) (Pv p xs) (h0 p xs H1 e h2 h3) (hl p xs) (hs p xs) (hd p xs)⟩
/-- a new list that a loop leaves alone: what the law may do with it -/
theorem app_ex {H1 H2 : Hp} {p : Addr} {o : HO} (e : Ex H H2) (hp : H p = none) : Ex H (upd H2 p o) := Ex.mut e hp
end
end Evl
namespace Ch
open PySem L2
theorem nx_append (a b : List Bool) : nx (a ++ b) = nx a + nx b := by unfold nx; rw [List.count_append]
theorem nx_le (a : List Bool) : nx a ≤ a.length := List.count_le_length
theorem nx_cons (b : Bool) (r : List Bool) : nx (b :: r) = nx r + b.toNat := by
  unfold nx
  rw [List.count_cons]
  cases b <;> rfl
theorem st_sum : ∀ bs : List Bool, 2 * (st bs).sum = (bs.length - 1) * bs.length + 2 * nx bs
  | [] => rfl
  | [b] => by
    show 2 * (0 + b.toNat + 0) = 0 * 1 + 2 * nx [b]
    rw [nx_cons]
    show 2 * (0 + b.toNat + 0) = 0 * 1 + 2 * (0 + b.toNat)
    omega
  | b :: c :: r => by
    have ih := st_sum (c :: r)
    rw [nx_cons]
    show 2 * (((c :: r).length + b.toNat) + (st (c :: r)).sum) = ((c :: r).length + 1 - 1) * ((c :: r).length + 1) + _
    simp only [List.length_cons, Nat.add_sub_cancel] at ih ⊢
    have e : (r.length + 1) * (r.length + 1 + 1) = r.length * (r.length + 1) + 2 * (r.length + 1) := by
      rw [Nat.mul_add, Nat.mul_one, Nat.add_mul]; omega
    omega
theorem filter_sum : ∀ l : List Nat, (l.filter (0 < ·)).sum = l.sum
  | [] => rfl
  | a :: r => by
    have ih := filter_sum r
    by_cases h : 0 < a
    · rw [List.filter_cons, if_pos (by simpa using h), List.sum_cons, List.sum_cons, ih]
    · rw [List.filter_cons, if_neg (by simpa using h), List.sum_cons, ih]; omega
theorem stand_sum (bs : List Bool) : 2 * (stand bs).sum = (bs.length - 1) * bs.length + 2 * nx bs := by
  unfold stand
  rw [filter_sum, st_sum]
/-- marks of at most 400 cards, by the law's own bounds -/
structure Ms (bs : List Bool) : Prop where
  pos : 0 < bs.length
  len : bs.length ≤ 28
  few : bs.length = 28 → nx bs ≤ 22
theorem tri_mono {a b : Nat} (h : a ≤ b) : (a - 1) * a ≤ (b - 1) * b := Nat.mul_le_mul (by omega) h
theorem Ms.hs {bs : List Bool} (h : Ms bs) : Hs (stand bs) := ⟨stand_pos, stand_srt bs, by
  have h1 := stand_sum bs
  have h2 := nx_le bs
  have h3 := h.few
  have h4 := h.len
  rcases Nat.lt_or_ge bs.length 28 with h5 | h5
  · have := tri_mono (show bs.length ≤ 27 by omega)
    omega
  · have e : bs.length = 28 := by omega
    have := h3 e
    rw [e] at h1
    omega⟩
end Ch
/-! all heaps come to a round -/
namespace Ch
def su (f : Nat → Nat) : Nat → Nat
  | 0 => 0
  | k + 1 => su f k + f k
theorem su_front (f : Nat → Nat) : ∀ k, su f (k + 1) = f 0 + su (fun j => f (j + 1)) k
  | 0 => by simp [su]
  | k + 1 => by
    show su f (k + 1) + f (k + 1) = f 0 + (su (fun j => f (j + 1)) k + f (k + 1))
    rw [su_front f k]; omega
theorem su_congr {f g : Nat → Nat} : ∀ k, (∀ j, j < k → f j = g j) → su f k = su g k
  | 0, _ => rfl
  | k + 1, h => by
    show su f k + f k = su g k + g k
    rw [su_congr k fun j hj => h j (by omega), h k (by omega)]
theorem su_le {f g : Nat → Nat} : ∀ k, (∀ j, j < k → f j ≤ g j) → su f k ≤ su g k
  | 0, _ => Nat.le_refl _
  | k + 1, h => by
    have h1 := su_le (f := f) (g := g) k fun j hj => h j (by omega)
    have h2 := h k (by omega)
    show su f k + f k ≤ su g k + g k
    omega
theorem su_lt {f g : Nat → Nat} : ∀ k, (∀ j, j < k → f j ≤ g j) → ∀ p, p < k → f p < g p → su f k < su g k
  | 0, _, p, hp, _ => by omega
  | k + 1, h, p, hp, hl => by
    show su f k + f k < su g k + g k
    by_cases e : p = k
    · subst e
      have h1 := su_le (f := f) (g := g) p fun j hj => h j (by omega)
      omega
    · have h1 := su_lt (f := f) (g := g) k (fun j hj => h j (by omega)) p (by omega) hl
      have h2 := h k (by omega)
      omega
theorem su_add (f g : Nat → Nat) : ∀ k, su (fun j => f j + g j) k = su f k + su g k
  | 0 => rfl
  | k + 1 => by
    show su (fun j => f j + g j) k + (f k + g k) = su f k + f k + (su g k + g k)
    rw [su_add f g k]; omega
def tT (r : Nat → Nat) : Nat → Nat := fun j => r (j + 1) + (if j < r 0 then 1 else 0)
def tTn : Nat → (Nat → Nat) → Nat → Nat
  | 0, r => r
  | t + 1, r => tTn t (tT r)
theorem tTn_add : ∀ (a b : Nat) (r : Nat → Nat), tTn (a + b) r = tTn b (tTn a r)
  | 0, b, r => by rw [Nat.zero_add]; rfl
  | a + 1, b, r => by
    rw [Nat.succ_add]
    exact tTn_add a b (tT r)
def sS (d : Nat) (r : Nat → Nat) : Prop := ∀ j, d ≤ r j + j
theorem sS.tT {d : Nat} {r : Nat → Nat} (h : sS d r) : sS d (tT r) := fun j => by
  have h1 := h (j + 1)
  have h0 := h 0
  unfold Ch.tT
  split <;> omega
theorem sS.tTn {d : Nat} : ∀ (t : Nat) {r : Nat → Nat}, sS d r → sS d (tTn t r)
  | 0, _, h => h
  | t + 1, _, h => sS.tTn t h.tT
def eE (d : Nat) (r : Nat → Nat) (j : Nat) : Nat := if d < r j + j then 1 else 0
def cnt (d : Nat) (r : Nat → Nat) : Nat := su (eE d r) (d + 1)
theorem cnt_front (d : Nat) (r : Nat → Nat) : cnt d r = eE d r 0 + su (fun j => eE d r (j + 1)) d := su_front _ d
theorem cnt_T {d : Nat} {r : Nat → Nat} (h : sS d r) : cnt d (tT r) = su (fun j => eE d r (j + 1)) d + eE d (tT r) d := by
  show su (eE d (tT r)) d + eE d (tT r) d = _
  congr 1
  refine su_congr d fun j hj => ?_
  have h0 := h 0
  unfold eE tT
  rw [if_pos (show j < r 0 by omega)]
  have e : r (j + 1) + 1 + j = r (j + 1) + (j + 1) := by omega
  rw [e]
theorem cnt_mono {d : Nat} {r : Nat → Nat} (h : sS d r) : cnt d r ≤ cnt d (tT r) := by
  rw [cnt_T h, cnt_front]
  have : eE d r 0 ≤ eE d (tT r) d := by
    unfold eE tT
    by_cases h0 : d < r 0
    · rw [if_pos h0, if_pos (by omega), if_pos (by omega)]; omega
    · rw [if_neg (by omega)]; omega
  omega
theorem cnt_gain {d : Nat} {r : Nat → Nat} (h : sS d r) (h0 : r 0 = d) (h1 : 1 ≤ r (d + 1)) : cnt d r < cnt d (tT r) := by
  rw [cnt_T h, cnt_front]
  have e1 : eE d r 0 = 0 := by unfold eE; rw [if_neg (by omega)]
  have e2 : eE d (tT r) d = 1 := by unfold eE tT; rw [if_pos (by omega)]
  omega
def kK (d p q : Nat) : Nat := if p ≤ q then d + 1 + p - q else p - q - 1
theorem meet (d : Nat) : ∀ (N : Nat) (r : Nat → Nat) (p q : Nat), sS d r → p ≤ d → q ≤ d + 1 → r p + p ≤ d → d + 1 < r q + q → p + kK d p q * (d + 1) = N →
    ∃ t, t ≤ N + 1 ∧ cnt d r < cnt d (tTn t r) := by
  intro N
  induction N with
  | zero =>
    intro r p q hs hp hq h1 h2 hN
    have hp0 : p = 0 := by omega
    subst hp0
    have hk : kK d 0 q = 0 := by
      rcases Nat.eq_zero_or_pos (kK d 0 q) with e | e
      · exact e
      · have := Nat.mul_le_mul e (Nat.le_refl (d + 1)); omega
    have hq' : q = d + 1 := by unfold kK at hk; rw [if_pos (Nat.zero_le _)] at hk; omega
    subst hq'
    have := hs 0
    exact ⟨1, Nat.le_refl _, cnt_gain hs (by omega) (by omega)⟩
  | succ N ih =>
    intro r p q hs hp hq h1 h2 hN
    have hs0 := hs 0
    by_cases hA : r 0 = d ∧ 1 ≤ r (d + 1)
    · exact ⟨1, by omega, cnt_gain hs hA.1 hA.2⟩
    · have key : ∃ p' q', p' ≤ d ∧ q' ≤ d + 1 ∧ tT r p' + p' ≤ d ∧ d + 1 < tT r q' + q' ∧ p' + kK d p' q' * (d + 1) = N := by
        have hq2 : ∃ q', q' ≤ d + 1 ∧ d + 1 < tT r q' + q' ∧ q' = (if q = 0 then d + 1 else q - 1) := by
          by_cases h0 : q = 0
          · subst h0
            refine ⟨d + 1, Nat.le_refl _, ?_, rfl⟩
            unfold tT
            rw [if_pos (by omega)]; omega
          · refine ⟨q - 1, by omega, ?_, by rw [if_neg h0]⟩
            unfold tT
            have e : q - 1 + 1 = q := by omega
            rw [e]
            by_cases h3 : q - 1 < r 0
            · rw [if_pos h3]; omega
            · exfalso
              have e2 : q = d + 1 := by omega
              subst e2
              exact hA ⟨by omega, by omega⟩
        obtain ⟨q', hq1, hq3, hqe⟩ := hq2
        by_cases h0 : p = 0
        · subst h0
          have hd : r 0 = d := by omega
          have hd1 : r (d + 1) = 0 := by
            rcases Nat.eq_zero_or_pos (r (d + 1)) with e | e
            · exact e
            · exact absurd ⟨hd, e⟩ hA
          have hqd : q ≤ d := by
            rcases Nat.lt_or_ge d q with e | e
            · have e2 : q = d + 1 := by omega
              subst e2; omega
            · exact e
          refine ⟨d, q', Nat.le_refl _, hq1, ?_, hq3, ?_⟩
          · unfold tT
            rw [if_neg (by omega), hd1]; omega
          · have e1 : kK d 0 q = d + 1 - q := by unfold kK; rw [if_pos (Nat.zero_le _)]
            have e2 : kK d d q' = d - q := by
              unfold kK
              by_cases hz : q = 0
              · rw [if_pos hz] at hqe; rw [if_pos (by omega)]; omega
              · rw [if_neg hz] at hqe; rw [if_neg (by omega)]; omega
            rw [e1] at hN
            rw [e2]
            have e3 : d + 1 - q = (d - q) + 1 := by omega
            rw [e3, Nat.succ_mul] at hN
            omega
        · refine ⟨p - 1, q', by omega, hq1, ?_, hq3, ?_⟩
          · unfold tT
            have e : p - 1 + 1 = p := by omega
            rw [e, if_pos (by omega)]; omega
          · have e2 : kK d (p - 1) q' = kK d p q := by
              unfold kK
              by_cases hz : q = 0
              · rw [if_pos hz] at hqe; rw [if_pos (by omega), if_neg (by omega)]; omega
              · rw [if_neg hz] at hqe
                by_cases hpq : p ≤ q
                · rw [if_pos (by omega), if_pos hpq]; omega
                · rw [if_neg (by omega), if_neg hpq]; omega
            rw [e2]
            omega
      obtain ⟨p', q', a1, a2, a3, a4, a5⟩ := key
      obtain ⟨t, ht, hc⟩ := ih (tT r) p' q' hs.tT a1 a2 a3 a4 a5
      exact ⟨t + 1, by omega, Nat.lt_of_le_of_lt (cnt_mono hs) hc⟩
/-- diagonal d has a gap, none behind it has a card -/
structure Dn (d : Nat) (r : Nat → Nat) : Prop where
  s : sS d r
  gap : ∃ p, p ≤ d ∧ r p + p ≤ d
  up : ∀ q, q ≤ d + 1 → r q + q ≤ d + 1
theorem su_one : ∀ k, su (fun _ => 1) k = k
  | 0 => rfl
  | k + 1 => by show su (fun _ => 1) k + 1 = k + 1; rw [su_one k]
theorem cnt_le (d : Nat) (r : Nat → Nat) : cnt d r ≤ d + 1 := by
  have := su_le (f := eE d r) (g := fun _ => 1) (d + 1) fun j _ => by unfold eE; split <;> omega
  rw [su_one] at this
  exact this
theorem kK_le {d p q : Nat} (hp : p ≤ d) (hq : q ≤ d + 1) : kK d p q ≤ d + 1 := by
  unfold kK
  split <;> omega
theorem level (d : Nat) : ∀ (m : Nat) (r : Nat → Nat), sS d r → d + 1 ≤ cnt d r + m → ∃ t, t ≤ m * ((d + 1) * (d + 2)) ∧ (Dn d (tTn t r) ∨ sS (d + 1) (tTn t r)) := by
  intro m
  induction m with
  | zero =>
    intro r hs hc
    refine ⟨0, Nat.zero_le _, .inr fun j => ?_⟩
    show d + 1 ≤ r j + j
    have hs' := hs j
    rcases Nat.lt_or_ge d j with h | h
    · omega
    · rcases Nat.lt_or_ge d (r j + j) with h2 | h2
      · omega
      · exfalso
        have := su_lt (f := eE d r) (g := fun _ => 1) (d + 1) (fun j _ => by unfold eE; split <;> omega) j (by omega) (by unfold eE; rw [if_neg (by omega)]; omega)
        rw [su_one] at this
        have hcc : cnt d r = su (eE d r) (d + 1) := rfl
        omega
  | succ m ih =>
    intro r hs hc
    by_cases hg : ∃ p, p ≤ d ∧ r p + p ≤ d
    · by_cases hu : ∀ q, q ≤ d + 1 → r q + q ≤ d + 1
      · exact ⟨0, Nat.zero_le _, .inl ⟨hs, hg, hu⟩⟩
      · have hu' : ∃ q, q ≤ d + 1 ∧ d + 1 < r q + q := by
          refine Classical.byContradiction fun hn => hu fun q hq => ?_
          rcases Nat.lt_or_ge (d + 1) (r q + q) with h | h
          · exact absurd ⟨q, hq, h⟩ hn
          · exact h
        obtain ⟨p, hp, h1⟩ := hg
        obtain ⟨q, hq, h2⟩ := hu'
        obtain ⟨t, ht, hlt⟩ := meet d _ r p q hs hp hq h1 h2 rfl
        obtain ⟨t2, ht2, hr⟩ := ih (tTn t r) (hs.tTn t) (by omega)
        refine ⟨t + t2, ?_, by rw [tTn_add]; exact hr⟩
        have hk := Nat.mul_le_mul (kK_le hp hq) (Nat.le_refl (d + 1))
        have e : (d + 1) * (d + 2) = (d + 1) * (d + 1) + (d + 1) := Nat.mul_succ _ _
        rw [Nat.succ_mul]
        omega
    · have : ∀ p, p ≤ d → d < r p + p := fun p hp => by
        rcases Nat.lt_or_ge d (r p + p) with h | h
        · exact h
        · exact absurd ⟨p, hp, h⟩ hg
      refine ⟨0, Nat.zero_le _, .inr fun j => ?_⟩
      show d + 1 ≤ r j + j
      rcases Nat.lt_or_ge d j with h | h
      · omega
      · have := this j h; omega
theorem reach (L : Nat) : ∀ (k d : Nat) (r : Nat → Nat), d + k = L → sS d r → (∀ t, ¬ sS L (tTn t r)) → ∃ t, t ≤ k * (L * (L * (L + 1))) ∧ ∃ e, e < L ∧ Dn e (tTn t r) := by
  intro k
  induction k with
  | zero =>
    intro d r hd hs hn
    have : d = L := by omega
    subst this
    exact absurd hs (hn 0)
  | succ k ih =>
    intro d r hd hs hn
    obtain ⟨t, ht, h⟩ := level d (d + 1) r hs (by omega)
    have hb : t ≤ L * (L * (L + 1)) := Nat.le_trans ht (Nat.mul_le_mul (by omega) (Nat.mul_le_mul (by omega) (by omega)))
    rcases h with h | h
    · exact ⟨t, by rw [Nat.succ_mul]; omega, d, by omega, h⟩
    · obtain ⟨t2, ht2, e, he, hD⟩ := ih (d + 1) (tTn t r) (by omega) h fun t3 => by rw [← tTn_add]; exact hn _
      exact ⟨t + t2, by rw [Nat.succ_mul]; omega, e, he, by rw [tTn_add]; exact hD⟩
/-! rows of heaps -/
def row (h : List Nat) (j : Nat) : Nat := h.countP (fun x => decide (j < x))
theorem row_cons (a : Nat) (l : List Nat) (j : Nat) : row (a :: l) j = row l j + (if j < a then 1 else 0) := by
  unfold row
  rw [List.countP_cons]
  by_cases h : j < a <;> simp [h]
theorem row_zero : ∀ {h : List Nat}, (∀ n ∈ h, 0 < n) → row h 0 = h.length
  | [], _ => rfl
  | a :: l, hp => by
    rw [row_cons, row_zero fun n hn => hp n (List.mem_cons_of_mem _ hn), if_pos (hp a List.mem_cons_self)]; rfl
theorem row_left : ∀ (h : List Nat) (j : Nat), row (left h) j = row h (j + 1)
  | [], _ => rfl
  | a :: l, j => by
    have ih := row_left l j
    unfold left at ih ⊢
    rw [row_cons, ← ih]
    by_cases h1 : 1 < a
    · rw [List.filter_cons, if_pos (by simpa using h1), List.map_cons, row_cons]
      have : (if j < a - 1 then 1 else 0) = (if j + 1 < a then 1 else 0 : Nat) := by
        by_cases h2 : j + 1 < a
        · rw [if_pos h2, if_pos (by omega)]
        · rw [if_neg h2, if_neg (by omega)]
      omega
    · rw [List.filter_cons, if_neg (by simpa using h1), if_neg (by omega)]; omega
theorem row_turn {h : List Nat} (hp : ∀ n ∈ h, 0 < n) : row (turn h) = tT (row h) := by
  funext j
  unfold tT
  rw [row_zero hp]
  by_cases hn : h = []
  · subst hn; rfl
  · have e : row (turn h) j = row (left h ++ [h.length]) j := (turn_perm hn).countP_eq _
    rw [e]
    unfold row
    rw [List.countP_append]
    have e2 := row_left h j
    unfold row at e2
    rw [e2]
    simp [List.countP_cons]
theorem row_tn {h : List Nat} (hp : ∀ n ∈ h, 0 < n) : ∀ t, row (tn t h) = tTn t (row h)
  | 0 => rfl
  | t + 1 => by
    have h1 := row_tn hp t
    rw [tn_succ, row_turn (tn_sum hp t).2, h1]
    show tTn 1 (tTn t (row h)) = _
    rw [← tTn_add]
theorem su_ind (a : Nat) : ∀ k, su (fun j => if j < a then 1 else 0) k = min a k
  | 0 => by simp [su]
  | k + 1 => by
    show su (fun j => if j < a then 1 else 0) k + (if k < a then 1 else 0) = _
    rw [su_ind a k]
    split <;> omega
theorem su_row : ∀ (h : List Nat) (k : Nat), su (row h) k = (h.map (min · k)).sum
  | [], k => by
    show su (fun _ => 0) k = 0
    induction k with
    | zero => rfl
    | succ k ih => show su (fun _ => 0) k + 0 = 0; omega
  | a :: l, k => by
    have e : su (row (a :: l)) k = su (fun j => row l j + (if j < a then 1 else 0)) k := su_congr k fun j _ => row_cons a l j
    rw [e, su_add, su_ind, su_row l k, List.map_cons, List.sum_cons]; omega
theorem min_sum_le : ∀ (h : List Nat) (k : Nat), (h.map (min · k)).sum ≤ h.sum
  | [], _ => Nat.le_refl _
  | a :: l, k => by
    have := min_sum_le l k
    rw [List.map_cons, List.sum_cons, List.sum_cons]
    omega
theorem min_sum_eq : ∀ (h : List Nat) (k : Nat), (∀ n ∈ h, n ≤ k) → (h.map (min · k)).sum = h.sum
  | [], _, _ => rfl
  | a :: l, k, hb => by
    have := min_sum_eq l k fun n hn => hb n (List.mem_cons_of_mem _ hn)
    have := hb a List.mem_cons_self
    rw [List.map_cons, List.sum_cons, List.sum_cons]
    omega
theorem su_down (d : Nat) : ∀ k, k ≤ d → 2 * su (fun j => d - j) k + (d - k) * (d - k + 1) = d * (d + 1)
  | 0, _ => by simp [su]
  | k + 1, hk => by
    have ih := su_down d k (by omega)
    show 2 * (su (fun j => d - j) k + (d - k)) + (d - (k + 1)) * (d - (k + 1) + 1) = _
    have e : d - k = d - (k + 1) + 1 := by omega
    rw [e] at ih ⊢
    generalize d - (k + 1) = x at ih ⊢
    have e1 : (x + 1) * (x + 1 + 1) = x * (x + 1) + 2 * (x + 1) := by
      rw [Nat.mul_add, Nat.mul_one, Nat.add_mul]; omega
    omega
theorem sS_sum {d : Nat} {h : List Nat} (hs : sS d (row h)) : d * (d + 1) ≤ 2 * h.sum := by
  have h1 := su_le (f := fun j => d - j) (g := row h) d fun j hj => by have := hs j; omega
  rw [su_row] at h1
  have h2 := min_sum_le h d
  have h3 := su_down d d (Nat.le_refl _)
  simp at h3
  omega
theorem Dn_sum {d : Nat} {h : List Nat} (hD : Dn d (row h)) : 2 * h.sum < (d + 1) * (d + 2) := by
  have hr : row h (d + 1) = 0 := by have := hD.up (d + 1) (Nat.le_refl _); omega
  have hb : ∀ n ∈ h, n ≤ d + 1 := fun n hn => by
    unfold row at hr
    have := List.countP_eq_zero.mp hr n hn
    simp at this
    omega
  obtain ⟨p, hp, hg⟩ := hD.gap
  have h1 := su_lt (f := row h) (g := fun j => d + 1 - j) (d + 1) (fun j hj => by have := hD.up j (by omega); omega) p (by omega) (by omega)
  rw [su_row, min_sum_eq h _ hb] at h1
  have h3 : 2 * su (fun j => d + 1 - j) (d + 1) + (d + 1 - (d + 1)) * (d + 1 - (d + 1) + 1) = (d + 1) * (d + 2) := su_down (d + 1) (d + 1) (Nat.le_refl _)
  rw [Nat.sub_self, Nat.zero_mul] at h3
  omega
theorem row_lt : ∀ {h : List Nat}, h.Pairwise (· ≥ ·) → ∀ i j, j < h.getD i 0 ↔ i < row h j
  | [], _, i, j => by simp [row]
  | a :: l, hs, i, j => by
    obtain ⟨h1, h2⟩ := List.pairwise_cons.mp hs
    have ih := row_lt h2
    rw [row_cons]
    by_cases hja : j < a
    · rw [if_pos hja]
      cases i with
      | zero => simp [hja]
      | succ i => simp only [List.getD_cons_succ]; rw [ih i j]; omega
    · rw [if_neg hja]
      have hz : row l j = 0 := by
        unfold row
        refine List.countP_eq_zero.mpr fun x hx => ?_
        have := h1 x hx
        simp
        omega
      rw [hz]
      cases i with
      | zero => simp; omega
      | succ i =>
        simp only [List.getD_cons_succ]
        rw [ih i j, hz]; omega
theorem signs_some : ∀ l : List Nat, (∀ i, i < l.length → l.length ≤ l.getD i 0 + i + 1 ∧ l.getD i 0 + i ≤ l.length) → signs l ≠ none
  | [], _ => by unfold signs; simp
  | c :: r, h => by
    have h0 := h 0 (by simp)
    simp only [List.getD_cons_zero, List.length_cons] at h0
    have ih := signs_some r fun i hi => by
      have := h (i + 1) (by simp; omega)
      simp only [List.getD_cons_succ, List.length_cons] at this
      omega
    cases hr : signs r with
    | none => exact absurd hr ih
    | some bs =>
      unfold signs
      rw [hr]
      by_cases h1 : c = r.length
      · rw [if_pos h1]; simp
      · rw [if_neg h1, if_pos (by omega)]; simp
theorem pad_get (h : List Nat) (s i : Nat) : (pad h s).getD i 0 = h.getD i 0 := by
  unfold pad
  simp only [List.getD_eq_getElem?_getD]
  by_cases hi : i < h.length
  · rw [List.getElem?_append_left hi]
  · rw [List.getElem?_append_right (by omega), List.getElem?_eq_none (l := h) (by omega)]
    by_cases h2 : i - h.length < s + 1 - h.length
    · rw [List.getElem?_replicate, if_pos h2]; rfl
    · rw [List.getElem?_replicate, if_neg h2]
theorem Dn_marks {d : Nat} {h : List Nat} (hp : ∀ n ∈ h, 0 < n) (hs : h.Pairwise (· ≥ ·)) (hD : Dn d (row h)) : marks h ≠ none := by
  have he : stairs h.sum = d := (stairs_is h.sum).one ⟨sS_sum hD.s, Dn_sum hD⟩
  have hl : h.length ≤ d + 1 := by
    have := hD.up 0 (by omega)
    rw [row_zero hp] at this
    omega
  unfold marks
  rw [he, if_neg (by omega)]
  refine signs_some _ fun i hi => ?_
  rw [pad_len hl] at hi ⊢
  rw [pad_get]
  constructor
  · by_cases hid : i < d
    · have h1 := (row_lt hs i (d - i - 1)).mpr (by have := hD.s (d - i - 1); omega)
      omega
    · omega
  · have h1 : ¬ (d + 1 - i < h.getD i 0) := fun hc => by
      have := (row_lt hs i (d + 1 - i)).mp hc
      have := hD.up (d + 1 - i) (by omega)
      omega
    omega
theorem come {h : List Nat} (hs : Hs h) : ∃ t, t ≤ 640000 ∧ marks (tn t h) ≠ none := by
  obtain ⟨t, ht, d, hd, hD⟩ := reach 28 28 0 (row h) rfl (fun j => Nat.zero_le _) fun t hS => by
    rw [← row_tn hs.pos] at hS
    have h1 := sS_sum hS
    have h2 := (hs.tn t).sm
    omega
  rw [← row_tn hs.pos] at hD
  exact ⟨t, by omega, Dn_marks (hs.tn t).pos (hs.tn t).srt hD⟩
end Ch
/-! turns to a round, and how long it is -/
namespace Ch
def nt (bs : List Bool) : Nat := bs.count true
theorem nt_cons (b : Bool) (r : List Bool) : nt (b :: r) = nt r + b.toNat := by
  unfold nt
  rw [List.count_cons]
  cases b <;> rfl
theorem nt_le (a : List Bool) : nt a ≤ a.length := List.count_le_length
theorem st_sum2 : ∀ bs : List Bool, 2 * (st bs).sum + bs.length = bs.length * bs.length + 2 * nt bs
  | [] => rfl
  | b :: r => by
    have ih := st_sum2 r
    rw [nt_cons]
    show 2 * ((r.length + b.toNat) + (st r).sum) + (r.length + 1) = (r.length + 1) * (r.length + 1) + _
    have e : (r.length + 1) * (r.length + 1) = r.length * r.length + 2 * r.length + 1 := by
      rw [Nat.mul_add, Nat.mul_one, Nat.add_mul]; omega
    omega
theorem filt_sum : ∀ l : List Nat, (l.filter (0 < ·)).sum = l.sum
  | [] => rfl
  | a :: r => by
    have ih := filt_sum r
    by_cases h : 0 < a
    · rw [List.filter_cons, if_pos (by simpa using h), List.sum_cons, List.sum_cons, ih]
    · rw [List.filter_cons, if_neg (by simpa using h), List.sum_cons, ih]; omega
theorem stand_sum2 (bs : List Bool) : 2 * (stand bs).sum + bs.length = bs.length * bs.length + 2 * nt bs := by
  unfold stand
  rw [filt_sum, st_sum2]
theorem stairs_stand {bs : List Bool} (h : nt bs < bs.length) : stairs (stand bs).sum = bs.length - 1 := by
  have h1 := stand_sum2 bs
  refine (stairs_is _).one ?_
  obtain ⟨n, hn⟩ : ∃ n, bs.length = n + 1 := ⟨bs.length - 1, by omega⟩
  rw [hn] at h1 h ⊢
  have e : (n + 1) * (n + 1) = n * (n + 1) + (n + 1) := Nat.succ_mul n (n + 1)
  have e2 : (n + 1) * (n + 2) = n * (n + 1) + 2 * (n + 1) := by
    rw [Nat.mul_comm (n + 1) (n + 2), Nat.add_mul]
  constructor
  · show n * (n + 1) ≤ _; omega
  · show _ < (n + 1) * (n + 2); omega
theorem pad_stand {bs : List Bool} (hb : bs ≠ []) : pad (stand bs) (bs.length - 1) = st bs := by
  obtain ⟨cs, b, rfl⟩ := snoc_of hb
  rw [st_snoc, stand_snoc]
  unfold pad
  have e : (cs ++ [b]).length - 1 + 1 = cs.length + 1 := by simp
  rw [e]
  cases b
  · simp [stk_len]
  · simp [stk_len]
theorem stand_len {bs : List Bool} : (stand bs).length ≤ bs.length := by
  unfold stand
  have := List.length_filter_le (fun n : Nat => decide (0 < n)) (st bs)
  rw [st_len] at this
  exact this
theorem marks_of_stand {bs : List Bool} (h : nt bs < bs.length) : marks (stand bs) = some bs := by
  have hb : bs ≠ [] := fun e => by rw [e] at h; simp [nt] at h
  unfold marks
  rw [stairs_stand h, if_neg (by have := stand_len (bs := bs); omega), pad_stand hb, st_signs]
theorem marks_nt {h : List Nat} {bs : List Bool} (hp : ∀ n ∈ h, 0 < n) (hm : marks h = some bs) : nt bs < bs.length := by
  have h1 := marks_len hm
  have h2 := marks_stand hp hm
  have h3 := stand_sum2 bs
  have h4 := (stairs_is h.sum).2
  rw [h2] at h3
  generalize stairs h.sum = s at *
  rw [h1] at h3 ⊢
  have e : (s + 1) * (s + 1) = s * (s + 1) + (s + 1) := Nat.succ_mul s (s + 1)
  have e2 : (s + 1) * (s + 2) = s * (s + 1) + 2 * (s + 1) := by
    rw [Nat.mul_comm (s + 1) (s + 2), Nat.add_mul]
  omega
theorem marks_ne {h : List Nat} {bs : List Bool} (hm : marks h = some bs) : bs ≠ [] := fun e => by
  have := marks_len hm
  rw [e] at this
  simp at this
/-- marks, and whose they are -/
theorem marks_iff {h : List Nat} (hp : ∀ n ∈ h, 0 < n) (bs : List Bool) : marks h = some bs ↔ nt bs < bs.length ∧ stand bs = h :=
  ⟨fun hm => ⟨marks_nt hp hm, marks_stand hp hm⟩, fun ⟨h1, h2⟩ => by rw [← h2]; exact marks_of_stand h1⟩
theorem rot_len (bs : List Bool) : (rot bs).length = bs.length := by
  by_cases h : bs = []
  · subst h; rfl
  · obtain ⟨cs, b, rfl⟩ := snoc_of h
    rw [rot_snoc]; simp
theorem rot_nt (bs : List Bool) : nt (rot bs) = nt bs := by
  by_cases h : bs = []
  · subst h; rfl
  · obtain ⟨cs, b, rfl⟩ := snoc_of h
    rw [rot_snoc]
    unfold nt
    rw [List.count_append, List.count_cons]
    cases b <;> simp
/-- a round is not left -/
theorem marks_turn {h : List Nat} {bs : List Bool} (hp : ∀ n ∈ h, 0 < n) (hm : marks h = some bs) : marks (turn h) = some (rot bs) := by
  have h1 := marks_nt hp hm
  rw [← marks_stand hp hm, turn_stand (marks_ne hm)]
  exact marks_of_stand (by rw [rot_nt, rot_len]; exact h1)
theorem marks_tn {h : List Nat} (hp : ∀ n ∈ h, 0 < n) (hm : marks h ≠ none) : ∀ t, marks (tn t h) ≠ none
  | 0 => hm
  | t + 1 => by
    have ih := marks_tn hp hm t
    rw [tn_succ]
    cases h1 : marks (tn t h) with
    | none => exact absurd h1 ih
    | some bs => rw [marks_turn (tn_sum hp t).2 h1]; exact fun e => nomatch e
/-! turns to a round -/
def ttA : Nat → List Nat → Nat
  | 0, _ => 0
  | f + 1, h => if (marks h).isSome then 0 else ttA f (turn h) + 1
@[irreducible] def tt (h : List Nat) : Nat := ttA 640001 h
theorem ttA_is : ∀ (f : Nat) (h : List Nat), (∃ t, t < f ∧ marks (tn t h) ≠ none) → marks (tn (ttA f h) h) ≠ none ∧ (∀ t, t < ttA f h → marks (tn t h) = none) ∧ ttA f h < f
  | 0, h, ⟨t, ht, _⟩ => by omega
  | f + 1, h, ⟨t, ht, hm⟩ => by
    unfold ttA
    by_cases h0 : (marks h).isSome = true
    · rw [if_pos h0]
      refine ⟨fun e => ?_, fun t ht => by omega, by omega⟩
      rw [show tn 0 h = h from rfl] at e
      rw [e] at h0
      cases h0
    · rw [if_neg h0]
      have hn : marks h = none := by
        cases h1 : marks h with
        | none => rfl
        | some b => rw [h1] at h0; exact absurd rfl h0
      cases t with
      | zero => exact absurd hn hm
      | succ t =>
        obtain ⟨a, b, c⟩ := ttA_is f (turn h) ⟨t, by omega, hm⟩
        refine ⟨a, fun u hu => ?_, by omega⟩
        cases u with
        | zero => exact hn
        | succ u => exact b u (by omega)
theorem tt_is {h : List Nat} (hs : Hs h) : marks (tn (tt h) h) ≠ none ∧ (∀ t, t < tt h → marks (tn t h) = none) ∧ tt h ≤ 640000 := by
  obtain ⟨t, ht, hm⟩ := come hs
  have h1 := ttA_is 640001 h ⟨t, by omega, hm⟩
  unfold tt
  generalize ttA 640001 h = z at *
  exact ⟨h1.1, h1.2.1, by omega⟩
theorem tt_one {h : List Nat} (hs : Hs h) {t : Nat} (h1 : marks (tn t h) ≠ none) (h2 : ∀ u, u < t → marks (tn u h) = none) : tt h = t := by
  obtain ⟨a, b, _⟩ := tt_is hs
  rcases Nat.lt_trichotomy (tt h) t with h3 | h3 | h3
  · exact absurd (h2 _ h3) a
  · exact h3
  · exact absurd (b _ h3) h1
theorem tt_zero {h : List Nat} (hs : Hs h) : tt h = 0 ↔ marks h ≠ none := by
  constructor
  · intro e
    have := (tt_is hs).1
    rw [e] at this
    exact this
  · intro hm
    exact tt_one hs hm fun u hu => by omega
theorem tt_turn {h : List Nat} (hs : Hs h) : tt (turn h) = tt h - 1 := by
  by_cases h0 : marks h = none
  · have h1 : tt h ≠ 0 := fun e => (tt_zero hs).mp e h0
    obtain ⟨a, b, _⟩ := tt_is hs
    refine tt_one hs.turn ?_ fun u hu => ?_
    · obtain ⟨k, hk⟩ : ∃ k, tt h = k + 1 := ⟨tt h - 1, by omega⟩
      rw [hk] at a ⊢
      exact a
    · exact b (u + 1) (by omega)
  · have e1 := (tt_zero hs).mpr h0
    have e2 := (tt_zero hs.turn).mpr (marks_tn hs.pos h0 1)
    rw [e1, e2]
theorem tt_tn {h : List Nat} (hs : Hs h) : ∀ t, tt (tn t h) = tt h - t
  | 0 => by show tt h = tt h - 0; omega
  | t + 1 => by rw [tn_succ, tt_turn (hs.tn t), tt_tn hs t]; omega
/-! the length of a round -/
def lrot (p : Nat) (bs : List Bool) : List Bool := bs.drop p ++ bs.take p
def perA : Nat → Nat → List Bool → Nat
  | 0, p, _ => p
  | f + 1, p, bs => if lrot p bs = bs then p else perA f (p + 1) bs
def per (bs : List Bool) : Nat := perA bs.length 1 bs
theorem lrot_full (bs : List Bool) : lrot bs.length bs = bs := by unfold lrot; simp
theorem perA_is : ∀ (f p : Nat) (bs : List Bool), p + f = bs.length + 1 → 0 < f → p ≤ perA f p bs ∧ perA f p bs ≤ bs.length ∧ lrot (perA f p bs) bs = bs ∧ ∀ q, p ≤ q → q < perA f p bs → lrot q bs ≠ bs
  | 0, _, _, _, h => by omega
  | f + 1, p, bs, hf, _ => by
    unfold perA
    by_cases h : lrot p bs = bs
    · rw [if_pos h]
      exact ⟨Nat.le_refl _, by omega, h, fun q h1 h2 => by omega⟩
    · rw [if_neg h]
      by_cases hf0 : f = 0
      · exfalso
        have e : p = bs.length := by omega
        exact h (by rw [e]; exact lrot_full bs)
      · obtain ⟨a, b, c, d⟩ := perA_is f (p + 1) bs (by omega) (by omega)
        refine ⟨by omega, b, c, fun q h1 h2 => ?_⟩
        rcases Nat.eq_or_lt_of_le h1 with e | e
        · rw [← e]; exact h
        · exact d q e h2
theorem per_is {bs : List Bool} (hb : bs ≠ []) : 1 ≤ per bs ∧ per bs ≤ bs.length ∧ lrot (per bs) bs = bs ∧ ∀ q, 1 ≤ q → q < per bs → lrot q bs ≠ bs :=
  perA_is bs.length 1 bs (by omega) (List.length_pos_iff.mpr hb)
theorem lrot_rotk {bs : List Bool} {p : Nat} (hp : p ≤ bs.length) : lrot p (rotk p bs) = bs := by
  unfold lrot rotk
  have e : (bs.drop (bs.length - p)).length = p := by rw [List.length_drop]; omega
  rw [List.drop_append_of_le_length (by omega), List.take_append_of_le_length (by omega)]
  rw [List.drop_of_length_le (i := p) (l := bs.drop (bs.length - p)) (by omega), List.take_of_length_le (i := p) (l := bs.drop (bs.length - p)) (by omega), List.nil_append, List.take_append_drop]
theorem rotk_lrot {bs : List Bool} {p : Nat} (hp : p ≤ bs.length) : rotk p (lrot p bs) = bs := by
  unfold lrot rotk
  have e : (bs.drop p ++ bs.take p).length - p = (bs.drop p).length := by rw [List.length_append, List.length_drop, List.length_take]; omega
  rw [e, List.drop_append_of_le_length (Nat.le_refl _), List.take_append_of_le_length (Nat.le_refl _), List.drop_length, List.take_length, List.nil_append, List.take_append_drop]
theorem lrot_iff {bs : List Bool} {p : Nat} (hp : p ≤ bs.length) : lrot p bs = bs ↔ rotk p bs = bs := by
  constructor
  · intro h
    have := rotk_lrot hp
    rw [h] at this
    exact this
  · intro h
    have := lrot_rotk hp
    rw [h] at this
    exact this
theorem rotN_nt : ∀ (t : Nat) (bs : List Bool), nt (rotN t bs) = nt bs ∧ (rotN t bs).length = bs.length
  | 0, _ => ⟨rfl, rfl⟩
  | t + 1, bs => by
    obtain ⟨a, b⟩ := rotN_nt t bs
    show nt (rot (rotN t bs)) = _ ∧ (rot (rotN t bs)).length = _
    rw [rot_nt, rot_len]
    exact ⟨a, b⟩
theorem stand_inj {a b : List Bool} (ha : nt a < a.length) (hb : nt b < b.length) (h : stand a = stand b) : a = b := by
  have h1 := marks_of_stand ha
  rw [h, marks_of_stand hb] at h1
  exact (Option.some.inj h1).symm
theorem tn_back {h : List Nat} {bs : List Bool} (hp : ∀ n ∈ h, 0 < n) (hm : marks h = some bs) {p : Nat} (hl : p ≤ bs.length) : tn p h = h ↔ lrot p bs = bs := by
  have hb := marks_ne hm
  have hn := marks_nt hp hm
  have e := marks_stand hp hm
  rw [lrot_iff hl]
  have h1 : tn p h = stand (rotN p bs) := by rw [← e]; exact (tn_stand hb p).1
  have h2 : rotN p bs = rotk p bs := by
    rw [rotN_rotk hb]
    rcases Nat.eq_or_lt_of_le hl with z | z
    · rw [z, Nat.mod_self, rotk_zero, rotk_full]
    · rw [Nat.mod_eq_of_lt z]
  rw [h1, h2]
  constructor
  · intro h3
    rw [← e] at h3
    obtain ⟨a, b⟩ := rotN_nt p bs
    rw [h2] at a b
    exact stand_inj (by rw [a, b]; exact hn) hn h3
  · intro h3
    rw [h3]; exact e
/-- the round's length -/
def pr (h : List Nat) : Nat := match marks (tn (tt h) h) with
  | some bs => per bs
  | none => 1
theorem pr_is {h : List Nat} (hs : Hs h) : 1 ≤ pr h ∧ pr h ≤ 28 ∧ tn (tt h + pr h) h = tn (tt h) h ∧ ∀ q, 1 ≤ q → q < pr h → tn (tt h + q) h ≠ tn (tt h) h := by
  have hx := hs.tn (tt h)
  obtain ⟨hm, _, _⟩ := tt_is hs
  cases h1 : marks (tn (tt h) h) with
  | none => exact absurd h1 hm
  | some bs =>
    have e : pr h = per bs := by unfold pr; rw [h1]
    rw [e]
    obtain ⟨a, b, c, d⟩ := per_is (marks_ne h1)
    have hl : bs.length ≤ 28 := by
      have := marks_len h1
      have := stairs_400 hx.sm
      omega
    refine ⟨a, by omega, ?_, fun q h2 h3 h4 => ?_⟩
    · rw [tn_add]
      exact (tn_back hx.pos h1 b).mpr c
    · rw [tn_add] at h4
      exact d q h2 h3 ((tn_back hx.pos h1 (by omega)).mp h4)
/-- heaps that come again are on a round -/
theorem round_of {h : List Nat} (hs : Hs h) {p : Nat} (hp : 1 ≤ p) (h1 : tn p h = h) : marks h ≠ none := by
  have h2 : ∀ k, tn (k * p) h = h := fun k => by
    induction k with
    | zero => rw [Nat.zero_mul]; rfl
    | succ k ih => rw [Nat.succ_mul, tn_add, ih, h1]
  obtain ⟨t, _, hm⟩ := come hs
  have h3 := h2 t
  have hle : t ≤ t * p := Nat.le_mul_of_pos_right t hp
  have e : t * p = t + (t * p - t) := by omega
  rw [e, tn_add] at h3
  have := marks_tn (hs.tn t).pos hm (t * p - t)
  rw [h3] at this
  exact this
theorem tn_per {h : List Nat} (hs : Hs h) : ∀ (k q : Nat), tn (tt h + (q + k * pr h)) h = tn (tt h + q) h
  | 0, q => by rw [Nat.zero_mul]; rfl
  | k + 1, q => by
    have ih := tn_per hs k q
    have e : tt h + (q + (k + 1) * pr h) = (tt h + pr h) + (q + k * pr h) := by rw [Nat.succ_mul]; omega
    rw [e, tn_add, (pr_is hs).2.2.1, ← tn_add]
    exact ih
theorem tn_mod {h : List Nat} (hs : Hs h) (t : Nat) : tn (tt h + t) h = tn (tt h + t % pr h) h := by
  have e : t = t % pr h + (t / pr h) * pr h := by have := Nat.div_add_mod t (pr h); rw [Nat.mul_comm] at this; omega
  conv => lhs; rw [e]
  exact tn_per hs _ _
/-- the first heaps are all unlike -/
theorem tn_unlike {h : List Nat} (hs : Hs h) {i j : Nat} (hij : i < j) (hj : j < tt h + pr h) : tn i h ≠ tn j h := by
  intro e
  have ej : tn (j - i) (tn i h) = tn i h := by rw [← tn_add, show i + (j - i) = j by omega]; exact e.symm
  have hr := round_of (hs.tn i) (by omega) ej
  have hi : tt h ≤ i := by
    rcases Nat.lt_or_ge i (tt h) with z | z
    · exact absurd ((tt_is hs).2.1 i z) hr
    · exact z
  obtain ⟨p1, _, p3, p4⟩ := pr_is hs
  -- from i on to a whole count of rounds
  have hq : ∃ s, tn s (tn i h) = tn (tt h) h := by
    refine ⟨(i - tt h) * pr h - (i - tt h), ?_⟩
    rw [← tn_add]
    have hle : i - tt h ≤ (i - tt h) * pr h := Nat.le_mul_of_pos_right _ (by omega)
    have e2 : i + ((i - tt h) * pr h - (i - tt h)) = tt h + (0 + (i - tt h) * pr h) := by omega
    rw [e2, tn_per hs]
    rfl
  obtain ⟨s, hs1⟩ := hq
  refine p4 (j - i) (by omega) (by omega) ?_
  rw [tn_add, ← hs1, ← tn_add, Nat.add_comm, tn_add, ej]
/-- turns told, by the least count whose heaps come again -/
theorem rounds_at {h : List Nat} (hs : Hs h) : (∃ p, 1 ≤ p ∧ tn p h = h) ↔ marks h ≠ none := by
  constructor
  · rintro ⟨p, h1, h2⟩
    exact round_of hs h1 h2
  · intro hm
    have e := (tt_zero hs).mpr hm
    obtain ⟨a, _, b, _⟩ := pr_is hs
    rw [e, Nat.zero_add] at b
    exact ⟨pr h, a, b⟩
end Ch
/-! tuples, dicts by tuples, lists of lists -/
namespace Evl
open PySem L2 Ch
/-- what is known but for one object -/
def less (H : Hp) (a : Addr) : Hp := fun b => if b = a then none else H b
theorem less_ex {H : Hp} {a : Addr} : Ex (less H a) H := fun b o h => by
  unfold less at h
  split at h
  · cases h
  · exact h
theorem less_mono {H H' : Hp} {a : Addr} (e : Ex H H') : Ex (less H a) (less H' a) := fun b o h => by
  unfold less at h ⊢
  split at h
  · cases h
  · rename_i hb
    rw [if_neg hb]
    exact e b o h
theorem less_upd {H : Hp} {a : Addr} {o : HO} : less (upd H a o) a = less H a := by
  funext b
  unfold less
  by_cases h : b = a
  · rw [if_pos h, if_pos h]
  · rw [if_neg h, if_neg h, upd_ne h]
theorem less_comm {H : Hp} {a b : Addr} : less (less H a) b = less (less H b) a := by
  funext c
  unfold less
  by_cases h1 : c = a <;> by_cases h2 : c = b <;> simp [h1, h2]
theorem less_at {H : Hp} {a b : Addr} (h : b ≠ a) : less H a b = H b := by unfold less; rw [if_neg h]
def rTupS (K : PySem.W.Frag) : List V → Hp → VK → Prop := fun xs H Q => ∃ p ys, xs = [.ref p] ∧ ((SqL K H p ys ∧ ∀ l, H l = none → Q (.ref l) (upd H l (.tup ys))) ∨ (SqT K H p ys ∧ Q (.ref p) H))
section
variable {K : PySem.W.Frag} {σ : L2.St} {H H' : Hp} {ta tb tc te tl td ty : TE} {t : TT} {x y v : V} {P P' P2 : V → Hp → Prop} {Ps : List (V → Hp → Prop)} {tr : TA} {sp : Sp} {E : XK}
theorem eu_tupleOf {p : Addr} {xs : List V} (ha : Ev ta σ H (.ref p)) (h : SqL K H p xs) : EvU (tCB (rTupS K) (tCons ta tNil)) σ H xs := fun H1 e Q q =>
  ha H1 e _ fun H2 e2 => ⟨p, xs, rfl, .inl ⟨ex_l (e.trans e2) h, fun l hl => q l _ (fresh_back e2 hl) (e2.trans (Ex.new hl)) upd_same⟩⟩
theorem ev_dnotin {d : Addr} {kvs : List (List Key × V)} {ks : List Key} (ha : EvU ty σ H (ks.map kV)) (hd : Ev td σ H (.ref d)) (h : H d = some (.dT kvs)) : Ev (tDNotIn ty td) σ H (.bl (!(valV kvs ks).isSome)) := fun H1 e Q q =>
  ha H1 e _ fun b H2 hb e2 h2 => hd H2 (e.trans e2) _ fun H3 e3 => ⟨d, _, rfl, DGet.t (e3 d _ (e2 d _ (e d _ h))) (e3 b _ h2), q H3 (e2.trans e3)⟩
theorem ev_dget {d : Addr} {kvs : List (List Key × V)} {ks : List Key} (hd : Ev td σ H (.ref d)) (ha : EvU ty σ H (ks.map kV)) (h : H d = some (.dT kvs)) (hv : valV kvs ks = some v) : Ev (tDGet td ty) σ H v := fun H1 e Q q =>
  hd H1 e _ fun H2 e2 => ha H2 (e.trans e2) _ fun b H3 hb e3 h3 => ⟨d, v, rfl, by rw [← hv]; exact DGet.t (e3 d _ (e2 d _ (e d _ h))) h3, q H3 (e2.trans e3)⟩
theorem q_dput {d : Addr} {kvs : List (List Key × V)} {ks : List Key} {tv : TE} {tz : TS} {D : Ends} (hv : Ev tv σ H v) (hd : Ev td σ H (.ref d)) (ha : EvU ty σ H (ks.map kV)) (h : H d = some (.dT kvs)) (hl : kvs.length < sizeLine) (k : ∀ H1, Ex H H1 → tz D σ (upd H1 d (.dT (putK kvs ks v)))) : tSeq (sDPut td ty tv) tz D σ H :=
  hv H (Ex.refl H) _ fun H1 e1 => hd H1 e1 _ fun H2 e2 => ha H2 (e1.trans e2) _ fun b H3 hb e3 h3 => ⟨d, _, rfl, DPut.t (e3 d _ (e2 d _ (e1 d _ h))) h3 hl, k H3 ((e1.trans e2).trans e3)⟩
theorem q_appB {l : Addr} {xs : List V} {tz : TS} {D : Ends} (hl : H l = some (.lst xs)) (ha : Ev ta σ H (.ref l)) (h : Ev te σ H v) (hz : xs.length < sizeLine) (k : ∀ H1, Ex H H1 → tz D σ (upd H1 l (.lst (xs ++ [v])))) :
    tSeq (tDrop (tBM K "list" rAppend ta (tCons te tNil))) tz D σ H := ha H (Ex.refl H) _ fun H1 e1 =>
  ⟨Or.inl ⟨rfl, xs, sq_of (e1 l _ hl)⟩, h H1 e1 _ fun H2 e2 => ⟨l, xs, v, rfl, rfl, e2 l _ (e1 l _ hl), hz, k H2 (e1.trans e2)⟩⟩
/-- a new tuple -/
def isTup (Ps : List (V → Hp → Prop)) : V → Hp → Prop := fun v H' => ∃ t xs, v = .ref t ∧ H' t = some (.tup xs) ∧ AllP H' Ps xs
theorem ep_tup {ta : TA} (h : EvAP ta σ H Ps) (mo : ∀ P ∈ Ps, Mo P) (hl : Ps.length ≤ 100000) : EvP (tTup ta) σ H (isTup Ps) := fun H1 e Q q =>
  h H1 e _ fun vs H2 e2 ps => ⟨sz_of (by rw [ps.len]; exact hl), fun p hp => q _ _ (e2.trans (Ex.new hp)) ⟨p, vs, rfl, upd_same, ps.mono mo (Ex.new hp)⟩⟩
theorem mo_tup (mo : ∀ P ∈ Ps, Mo P) : Mo (isTup Ps) := fun _ _ _ e ⟨p, xs, h1, h2, h3⟩ => ⟨p, xs, h1, e p _ h2, h3.mono mo e⟩
theorem q_par3P {ta : TA} {i j l : Nat} {tz : TS} {D : Ends} (h : EvAP ta σ H [P, P', P2]) (k : ∀ v1 v2 v3 H1, Ex H H1 → P v1 H1 → P' v2 H1 → P2 v3 H1 → tz D (((σ.set i (some v1)).set j (some v2)).set l (some v3)) H1) : tSeq (tPar3 i j l ta) tz D σ H :=
  h H (Ex.refl H) _ fun vs H1 e ps => by
    cases ps with
    | cons p r => cases r with
      | cons p2 r => cases r with
        | cons p3 r => cases r; exact ⟨_, _, _, rfl, k _ _ _ H1 e p p2 p3⟩
/-- {} whose keys will be tuples -/
def isNewD (H0 : Hp) : V → Hp → Prop := fun v H => ∃ a, v = .ref a ∧ H0 a = none ∧ H a = some (.dT [])
theorem mo_newD {H0 : Hp} : Mo (isNewD H0) := fun _ _ _ e ⟨a, h1, h0, h2⟩ => ⟨a, h1, h0, e a _ h2⟩
theorem ep_newD : EvP tDNewT σ H (isNewD H) := fun H1 e Q q p hp => q _ _ (Ex.new hp) ⟨p, rfl, fresh_back e hp, upd_same⟩
/-- heaps that H0 does not know -/
def isNF (H0 : Hp) (ns : List Nat) : V → Hp → Prop := fun v H => ∃ a, v = .ref a ∧ H0 a = none ∧ H a = some (.lst (LI ns))
theorem mo_nf {H0 : Hp} {ns : List Nat} : Mo (isNF H0 ns) := fun _ _ _ e ⟨a, h1, h0, h2⟩ => ⟨a, h1, h0, e a _ h2⟩
def isHN (H0 : Hp) : V → Hp → Prop := fun v H => ∃ a ns, v = .ref a ∧ Hs ns ∧ H0 a = none ∧ H a = some (.lst (LI ns))
theorem mo_hn {H0 : Hp} : Mo (isHN H0) := fun _ _ _ e ⟨a, ns, h1, hs, h0, h2⟩ => ⟨a, ns, h1, hs, h0, e a _ h2⟩
theorem isHN.back {H0 H1 : Hp} {v : V} {H : Hp} (e : Ex H0 H1) (h : isHN H1 v H) : isHN H0 v H := let ⟨a, ns, h1, hs, h0, h2⟩ := h; ⟨a, ns, h1, hs, fresh_back e h0, h2⟩
theorem isHN.h {H0 : Hp} {v : V} {H : Hp} (h : isHN H0 v H) : isH v H := let ⟨a, ns, h1, hs, _, h2⟩ := h; ⟨a, ns, h1, hs, h2⟩
theorem allP_imp {H : Hp} {f g : List Nat → V → Hp → Prop} (h : ∀ ns v, f ns v H → g ns v H) : ∀ {hss : List (List Nat)} {vs : List V}, AllP H (hss.map f) vs → AllP H (hss.map g) vs
  | [], _, ps => by cases ps; exact .nil
  | ns :: r, _, ps => by
    cases ps with
    | cons p q => exact .cons (h _ _ p) (allP_imp h q)
/-- rows of heaps -/
def isRows (hss : List (List Nat)) : V → Hp → Prop := isDisp (hss.map isN)
theorem mo_mapN {hss : List (List Nat)} : ∀ P ∈ hss.map isN, Mo P := fun P hP => by
  obtain ⟨ns, _, rfl⟩ := List.mem_map.mp hP
  exact mo_n
theorem mo_rows {hss : List (List Nat)} : Mo (isRows hss) := mo_disp mo_mapN
theorem AllP.snoc {vs : List V} (ps : AllP H Ps vs) (p : P v H) : AllP H (Ps ++ [P]) (vs ++ [v]) := by
  induction ps with
  | nil => exact .cons p .nil
  | cons a r ih => exact .cons a ih
theorem AllP.drop {vs : List V} (ps : AllP H Ps vs) (k : Nat) : AllP H (Ps.drop k) (vs.drop k) := by
  induction ps generalizing k with
  | nil => simp; exact .nil
  | cons a r ih => cases k with
    | zero => exact .cons a r
    | succ k => exact ih k
theorem rows_get {hss : List (List Nat)} {vs : List V} (ps : AllP H (hss.map isN) vs) {i : Nat} {ns : List Nat} (h : hss[i]? = some ns) : ∃ a, vs[i]? = some (.ref a) ∧ H a = some (.lst (LI ns)) := by
  have hi : i < vs.length := by
    rw [ps.len, List.length_map]
    exact (List.getElem?_eq_some_iff.mp h).1
  obtain ⟨P, hP, hx⟩ := ps.get (List.getElem?_eq_getElem hi)
  rw [List.getElem?_map, h] at hP
  cases hP
  obtain ⟨a, ha, hb⟩ := hx
  exact ⟨a, by rw [List.getElem?_eq_getElem hi, ha], hb⟩
theorem cut_dropV (xs : List V) (k : Nat) (hk : k ≤ xs.length) : cutV xs (some (k : Int)) none = xs.drop k := by
  unfold cutV
  rw [HT.sIx_nat, HT.sIx_none, Nat.min_eq_left hk, List.take_of_length_le (by rw [List.length_drop]; exact Nat.le_refl _)]
theorem q_forR1B {ta : TA} {j : Nat} {n : Int} {tz tu : TS} {D : Ends} (h : EvA ta σ H [.int n]) (hn : 0 ≤ n ∧ n ≤ 100000000) (Pv : Nat → L2.St → Hp → Prop) (h0 : ∀ H1, Ex H H1 → Pv 0 σ H1)
    (hs : ∀ (i : Nat) σ' H', (i : Int) < n → Pv i σ' H' → tu { D with nx := Pv (i + 1), ct := Pv (i + 1), bk := tz D } (σ'.set j (some (.int (i : Int)))) H') (hd : ∀ σ' H', Pv n.toNat σ' H' → tz D σ' H') : tSeq (tFor (iRng1 ta) (gName j) tu) tz D σ H :=
  h H (Ex.refl H) _ fun H1 e => ⟨n, rfl, by omega, by omega, for_range (D := { D with nx := tz D }) (lo := 0) (n := n.toNat) Pv (h0 H1 e) (fun i σ' H' hi p => by
    have e0 : (0 : Int) + (i : Int) = (i : Int) := Int.zero_add _
    show tu { D with nx := Pv (i + 1), ct := Pv (i + 1), bk := tz D } (σ'.set j (some (.int ((0 : Int) + (i : Int))))) H'
    rw [e0]
    exact hs i σ' H' (by omega) p) hd⟩
theorem s_forEN {xs : List V} {tl : TE} {i1 i2 : Nat} {D : Ends} {tu : TS} (h : EvL tl σ H xs) (Pv : Addr → Nat → L2.St → Hp → Prop) (h0 : ∀ p H1, H p = none → Ex H H1 → H1 p = some (.lst xs) → Pv p 0 σ H1) (hl : ∀ p i σ' H', i ≤ xs.length → Pv p i σ' H' → SqL K H' p xs)
    (hs : ∀ p (i : Nat) x T σ' H', xs[i]? = some x → Pv p i σ' H' → H' T = none → tu { D with nx := Pv p (i + 1), ct := Pv p (i + 1), bk := D.nx } ((σ'.set i1 (some (.int (i : Nat)))).set i2 (some x)) (upd H' T (.tup [.int (i : Nat), x])))
    (hd : ∀ p σ' H', Pv p xs.length σ' H' → D.nx σ' H') : tFor (iEnum K (tCons tl tNil)) (gTup K 2 (gCons (gName i1) (gCons (gName i2) gNil))) tu D σ H :=
  h H (Ex.refl H) _ fun p H1 hp e h1 => ⟨p, xs, rfl, sq_of h1, for_it (D := D) (walk_enum (K := K) (a := p) (xs := xs)) (Pv p) (h0 p H1 hp e h1) (hl p) (fun i v σ' H' H'' hi pv y => by
    obtain ⟨T, x1, x2, rfl, hT, rfl, e1, e2⟩ := y
    cases e1
    exact ⟨T, [.int (i : Nat), x2], rfl, .inl (.inl upd_same), rfl, .int (i : Nat), [x2], rfl, x2, [], rfl, rfl, hs p i x2 T σ' H' e2 pv hT⟩) (hd p)⟩
/-- a value told by a word, of two that follow from it -/
theorem s_retQ {D : Ends} {Q' : VK} (h : EvP te σ H P) (k : ∀ v H1, Ex H H1 → P v H1 → D.rt v H1) : tRet te D σ H := s_retP h k
end
end Evl
namespace Ch
open PySem L2
def ky (ns : List Nat) : List Key := (cl ns).map Sum.inl
theorem ky_V (ns : List Nat) : (ky ns).map kV = LI ns := by unfold ky LI; rw [List.map_map]; rfl
theorem ky_inj {a b : List Nat} (h : ky a = ky b) : a = b := by
  refine cl_inj ?_
  unfold ky at h
  exact List.map_inj_right (fun _ _ e => Sum.inl.inj e) |>.mp h
/-- what was seen: the first u heaps, by their turns -/
def seen (ns : List Nat) (u : Nat) : List (List Key × V) := (List.range u).map fun i => (ky (tn i ns), .int (i : Nat))
theorem seen_len (ns : List Nat) (u : Nat) : (seen ns u).length = u := by unfold seen; rw [List.length_map, List.length_range]
theorem seen_succ (ns : List Nat) (u : Nat) : seen ns (u + 1) = seen ns u ++ [(ky (tn u ns), .int (u : Nat))] := by unfold seen; rw [List.range_succ, List.map_append]; rfl
theorem valV_seen_none {ns : List Nat} {k : List Key} : ∀ u, (∀ i, i < u → ky (tn i ns) ≠ k) → valV (seen ns u) k = none
  | u, h => by
    unfold valV
    rw [Option.map_eq_none_iff, List.find?_eq_none]
    intro x hx
    unfold seen at hx
    obtain ⟨i, hi, rfl⟩ := List.mem_map.mp hx
    rw [List.mem_range] at hi
    have := h i hi
    simpa using this
theorem valV_app_none {l r : List (List Key × V)} {k : List Key} (h : valV l k = none) : valV (l ++ r) k = valV r k := by
  unfold valV at h ⊢
  rw [Option.map_eq_none_iff] at h
  rw [List.find?_append, h, Option.none_or]
theorem valV_app_some {l r : List (List Key × V)} {k : List Key} {v : V} (h : valV l k = some v) : valV (l ++ r) k = some v := by
  unfold valV at h ⊢
  obtain ⟨x, hx, e⟩ := Option.map_eq_some_iff.mp h
  rw [List.find?_append, hx, Option.some_or, Option.map_some, e]
theorem valV_seen_some {ns : List Nat} {i : Nat} (hd : ∀ j, j < i → tn j ns ≠ tn i ns) : ∀ u, i < u → valV (seen ns u) (ky (tn i ns)) = some (.int (i : Nat))
  | 0, h => by omega
  | u + 1, h => by
    rw [seen_succ]
    rcases Nat.lt_or_ge i u with h1 | h1
    · exact valV_app_some (valV_seen_some hd u h1)
    · have e : i = u := by omega
      subst e
      rw [valV_app_none (valV_seen_none i fun j hj e => hd j hj (ky_inj e))]
      exact valV_pos rfl
theorem putK_seen {ns : List Nat} {u : Nat} (h : ∀ i, i < u → tn i ns ≠ tn u ns) : putK (seen ns u) (ky (tn u ns)) (.int (u : Nat)) = seen ns (u + 1) := by
  unfold putK
  rw [valV_any, valV_seen_none u fun i hi e => h i hi (ky_inj e), if_neg (by simp), seen_succ]
end Ch
/-! texts repeated, texts turned about; objects of own classes -/
namespace L2
open PySem PySem.Spec PyProof.Rows
/-- text * int -/
def rRepS : R2 := fun x y H Q => ∃ (z : Str) (k : Int), x = .str z ∧ y = .int k ∧ z.length ≤ 100 ∧ -100000 ≤ k ∧ k ≤ 100000 ∧ Q (.str (Txt.mul z k)) H
theorem op_repS {X : Cx} : OpR X (binaryOp .Mult) rRepS := by
  intro pins s σ H x y v u Q I rx ry h
  obtain ⟨z, k, rfl, rfl, hz, h0, h1, q⟩ := h
  obtain ⟨t, rfl⟩ := rx
  obtain ⟨t', rfl⟩ := ry
  refine PySem.SB.mul ⟨?_, ?_, ?_⟩ fun t2 k2 => ⟨.str _, H, I.tok _, ⟨_, rfl⟩, q⟩
  · rw [decide_eq_false (by omega), decide_eq_false (by omega)]; rfl
  · intro hk _ hc
    have h2 : (100 : Int) ≤ (2 ^ 63 - 1) / k := (Int.le_ediv_iff_mul_le (by omega)).mpr (by omega)
    omega
  · intro hk _
    unfold PySem.Builtin.Str.tooLong
    have h3 : z.length * k.toNat ≤ 100 * 100000 := Nat.mul_le_mul hz (by omega)
    exact decide_eq_false fun hc => by
      have : z.length * k.toNat > 16777216 := hc
      omega
/-- text[::-1] -/
def tRevS (te : TE) : TE := fun σ H Q => te σ H fun x H1 => ∃ z : Str, x = .str z ∧ z.length ≤ sizeLine ∧ Q (.str ⟨z.cps.toList.reverse.toArray⟩) H1
theorem pe_revS {X : Cx} {e : Expr} {te : TE} {k : Nat} {p1 p2 p3 pos : Pos} (he : PE X e te) : PE X (.Subscript e (.Slice none none (some (.UnaryOp .USub (.Constant (.int 1) k p1) p2)) p3) pos) (tRevS te) := by
  refine ⟨fun pins s σ H Q I h => ?_⟩
  refine Subscript_ (thn (he.run pins s σ H _ I h) fun v s1 ⟨x, H1, I1, r1, q1⟩ => ?_)
  obtain ⟨z, ex, hz, q⟩ := q1
  subst ex
  obtain ⟨tz, rfl⟩ := r1
  have hst : PO X (some (.UnaryOp .USub (.Constant (.int 1) k p1) p2)) (tPart (tUn (rU fun i => .int (-i)) (tC (.int 1)))) := po_some (pe_un un_neg pe_int)
  refine wpAny_Slice (thn (po_none.run pins s1 σ H1 (fun o H2 => o = none ∧ H2 = H1) I1 ⟨rfl, rfl⟩) fun vl s2 ⟨l, H2, I2, pl, el, e2⟩ => ?_)
  subst el e2
  refine thn (po_none.run pins s2 σ H2 (fun o H3 => o = none ∧ H3 = H2) I2 ⟨rfl, rfl⟩) fun vu s3 ⟨u, H3, I3, pu, eu, e3⟩ => ?_
  subst eu e3
  refine thn (hst.run pins s3 σ H3 (fun o H4 => o = some (-1) ∧ H4 = H3) I3 ⟨1, rfl, -1, rfl, rfl, rfl⟩) fun vs s4 ⟨o, H4, I4, ps, eo, e4⟩ => ?_
  subst eo e4
  have I5 : Inv X pins σ H4 { s4 with heap := s4.heap.push { cls := .type "slice", data := .fields #[vl, vu, vs] } } := I4.kept (t' := s4.toks) fun b ob q => Heap.get?_push_of_some _ q
  show wpAny (model X.prog X.w) X.A (subscriptTail e (.Slice none none (some (.UnaryOp .USub (.Constant (.int 1) k p1) p2)) p3) (.str z tz) (.ref s4.heap.objs.size)) (EP X pins σ Q) X.xe { s4 with heap := s4.heap.push { cls := .type "slice", data := .fields #[vl, vu, vs] } }
  obtain ⟨l, rfl, el⟩ := IsPart.raw pl
  obtain ⟨u, rfl, eu⟩ := IsPart.raw pu
  obtain ⟨w, rfl, ew⟩ := IsPart.raw ps
  have el' : l = none := by cases l with
    | none => rfl
    | some _ => cases el
  have eu' : u = none := by cases u with
    | none => rfl
    | some _ => cases eu
  subst el' eu'
  obtain ⟨tw, rfl⟩ : ∃ tw, w = some (-1, tw) := by
    cases w with
    | none => cases ew
    | some p => obtain ⟨i, t⟩ := p; cases ew; exact ⟨t, rfl⟩
  refine tail_any (ops := [.str z tz, .ref s4.heap.objs.size]) (typeIs_str _ _ _) (F.slot_str_getitem.lookup) ?_ (by with_unfolding_all rfl)
  have hsl : Heap.IsSlice (s4.heap.push { cls := .type "slice", data := .fields #[partValue none, partValue none, partValue (some (-1, tw))] }) s4.heap.objs.size none none (some (-1, tw)) := ⟨_, Heap.get?_push_size _ rfl, rfl, rfl⟩
  refine wpAny_getItem_str_slice hsl rfl ?_
  unfold sliceMade
  have h1 : ¬ ((((some ((-1 : Int), tw)).map (·.1)).getD 1 == 1 && (slicePicked z none none (some ((-1 : Int), tw))).length == z.length) = true) := by
    have : ((((some ((-1 : Int), tw)).map (·.1)).getD 1 == 1)) = false := rfl
    rw [this]; simp
  rw [if_neg h1]
  have hpk : (slicePicked z none none (some ((-1 : Int), tw))).filterMap (z.cps[·]?) = z.cps.toList.reverse := by
    show (Builtin.Str.strSliceIndices none none (-1) z.length).filterMap (z.cps[·]?) = _
    rw [picked_rev, filterMap_get, List.map_map]
    · refine List.ext_getElem? fun i => ?_
      by_cases hi : i < z.length
      · have hi' : i < z.cps.size := hi
        rw [List.getElem?_map, List.getElem?_range hi, List.getElem?_reverse (by simpa using hi')]
        show some (z.cps.getD (z.length - 1 - i) 0) = _
        have h2 : z.cps.size - 1 - i < z.cps.size := by omega
        have e1 : z.length = z.cps.size := rfl
        rw [e1, Array.length_toList]
        simp [Array.getD, h2]
      · rw [List.getElem?_eq_none (by simp; omega), List.getElem?_eq_none (by simp; exact Nat.le_of_not_lt hi)]
    · intro i hi
      obtain ⟨j, hj, rfl⟩ := List.mem_map.mp hi
      have hj' : j < z.length := List.mem_range.mp hj
      show z.length - 1 - j < z.length
      omega
  rw [hpk]
  exact ⟨by show z.cps.toList.reverse.toArray.size ≤ sizeLine; rw [List.size_toArray, List.length_reverse, Array.length_toList]; exact hz, .str _, H4, I5.tok _, ⟨_, rfl⟩, q⟩
/-! own classes -/
structure CMk (P : Program) (w : World) (K : PySem.W.Frag) (mg : Str → Option Value) (base : Heap) (k : Nat) (x : Str) (C : Addr) (sp : Sp) : Prop where
  ex : ∃ (f : Addr) (fd : FuncData) (ps : List Str), FnOk P w K mg base CX0 k f fd ps sp ∧ Mk K C f ∧ mg x = some (.ref C) ∧ Binds K fd ps []
structure CMt (P : Program) (w : World) (K : PySem.W.Frag) (mg : Str → Option Value) (base : Heap) (k : Nat) (C : Addr) (m : Str) (sp : Sp) : Prop where
  ex : ∃ (f : Addr) (fd : FuncData) (ps : List Str), FnOk P w K mg base CX0 k f fd ps sp ∧ Meth K C m f ∧ Cls K C ∧ Binds K fd ps []
section
variable {X : Cx} {k j : Nat} {x m : Str} {C : Addr} {sp : Sp} {p pos apos : Pos} {e o : Expr} {es : List Expr} {t : TA} {to : TE}
theorem pe_mk (c : CMk X.prog X.w X.K X.mg X.base k x C sp) (hr : Room j X.A) (hk : k + 1 ≤ j) (hg : Gl X x) (ha : PA X (e :: es) t)
    (hdb : (x == ("__debug__" : Str)) = false := by decide) (he : starEach (e :: es) X.env = (false, eval e X.env) :: starEach es X.env := by rfl) (hpl : (backTo pos (starEach es X.env)).any (·.1) = false := by rfl) :
    PE X (.Call (.Name x p) (e :: es) [] pos) (tMake C sp [] E0 t) := by
  obtain ⟨f, fd, ps, F, M, hm, b⟩ := c.ex
  exact pe_make M F (hr.mono hk) hg hm b .nil pass0 ha hdb he hpl
theorem pe_mt {pl : Sem Bool} (c : CMt X.prog X.w X.K X.mg X.base k C m sp) (hr : Room j X.A) (hk : k ≤ j) (ho : PE X o to) (ha : PA X (e :: es) t)
    (hst : starEach (e :: es) X.env = (false, eval e X.env) :: starEach es X.env := by rfl) (hpl : (backTo pos (starEach es X.env)).any (·.1) = false := by rfl)
    (ht : eval (.Call (.Attribute o m apos) (e :: es) [] pos) X.env = (do
      let ov ← eval o X.env
      standAt apos.atName
      let (f, first) ← holding [ov] (getMethod ov m pl)
      callWith pos f first (backTo pos (starEach (e :: es) X.env)) (backToKw pos (keywordEach [] X.env))) := by rfl) :
    PE X (.Call (.Attribute o m apos) (e :: es) [] pos) (tMeth C m sp [] E0 to t) := by
  obtain ⟨f, fd, ps, F, M, cl, b⟩ := c.ex
  exact pe_meth ho cl M F (hr.mono hk) b .nil pass0 ha hst hpl ht
/-- one reading or the other -/
def tAlt (t1 t2 : TE) : TE := fun σ H Q => t1 σ H Q ∨ t2 σ H Q
theorem pe_alt {t1 t2 : TE} (h1 : PE X e t1) (h2 : PE X e t2) : PE X e (tAlt t1 t2) :=
  ⟨fun pins s σ H Q I h => h.elim (h1.run pins s σ H Q I) (h2.run pins s σ H Q I)⟩
end
end L2
namespace Evl
open PySem L2 Ch
section
variable {K : PySem.W.Frag} {σ : L2.St} {H H' : Hp} {ta tb tc te tl : TE} {t : TT} {x y v : V} {P P' : V → Hp → Prop} {Ps : List (V → Hp → Prop)} {E : XK}
theorem ev_repS {z : Str} {k : Int} (ha : Ev ta σ H (.str z)) (hb : Ev tb σ H (.int k)) (hz : z.length ≤ 100) (h0 : -100000 ≤ k ∧ k ≤ 100000) : Ev (tOp rRepS ta tb) σ H (.str (Txt.mul z k)) := fun H1 e Q q =>
  ha H1 e _ fun H2 e2 => hb H2 (e.trans e2) _ fun H3 e3 => ⟨z, k, rfl, rfl, hz, h0.1, h0.2, q H3 (e2.trans e3)⟩
theorem ev_revS {z : Str} (ha : Ev ta σ H (.str z)) (hz : z.length ≤ 100000) : Ev (tRevS ta) σ H (.str ⟨z.cps.toList.reverse.toArray⟩) := fun H1 e Q q =>
  ha H1 e _ fun H2 e2 => ⟨z, rfl, sz_of hz, q H2 e2⟩
theorem ev_inS {c : Nat} {z : Str} (ha : Ev ta σ H (.str ⟨#[c]⟩)) (hb : Ev tb σ H (.str z)) : Ev (tOp (fun x y H Q => ∃ (c : Nat) (z : Str), x = .str ⟨#[c]⟩ ∧ y = .str z ∧ Q (.bl (decide (c ∈ z.cps.toList))) H) ta tb) σ H (.bl (decide (c ∈ z.cps.toList))) := fun H1 e Q q =>
  ha H1 e _ fun H2 e2 => hb H2 (e.trans e2) _ fun H3 e3 => ⟨c, z, rfl, rfl, q H3 (e2.trans e3)⟩
theorem ev_notInS {c : Nat} {z : Str} (ha : Ev ta σ H (.str ⟨#[c]⟩)) (hb : Ev tb σ H (.str z)) : Ev (tOp (fun x y H Q => ∃ (c : Nat) (z : Str), x = .str ⟨#[c]⟩ ∧ y = .str z ∧ Q (.bl (!decide (c ∈ z.cps.toList))) H) ta tb) σ H (.bl (!decide (c ∈ z.cps.toList))) := fun H1 e Q q =>
  ha H1 e _ fun H2 e2 => hb H2 (e.trans e2) _ fun H3 e3 => ⟨c, z, rfl, rfl, q H3 (e2.trans e3)⟩
theorem ev_strip {a b : Str} (ha : Ev ta σ H (.str a)) (hb : Ev tb σ H (.str b)) (hz : a.length ≤ 100000) : Ev (tBM K "str" (fun x xs H Q => ∃ a b, x = .str a ∧ xs = [.str b] ∧ a.length ≤ sizeLine ∧ Q (.str (Txt.stripChars a b)) H) ta (tCons tb tNil)) σ H (.str (Txt.stripChars a b)) := fun H1 e Q q =>
  ha H1 e _ fun H2 e2 => ⟨rfl, hb H2 (e.trans e2) _ fun H3 e3 => ⟨a, b, rfl, rfl, sz_of hz, q H3 (e2.trans e3)⟩⟩
theorem ev_min2 {i j : Int} (ha : Ev ta σ H (.int i)) (hb : Ev tb σ H (.int j)) : Ev (tCB (fun xs H Q => ∃ i j, xs = [.int i, .int j] ∧ Q (.int (if j < i then j else i)) H) (tCons ta (tCons tb tNil))) σ H (.int (if j < i then j else i)) := fun H1 e Q q =>
  ha H1 e _ fun H2 e2 => hb H2 (e.trans e2) _ fun H3 e3 => ⟨i, j, rfl, q H3 (e2.trans e3)⟩
theorem ev_isB {a b : Bool} (ha : Ev ta σ H (.bl a)) (hb : Ev tb σ H (.bl b)) : Ev (tOp (fun x y H Q => ∃ a b, x = .bl a ∧ y = .bl b ∧ Q (.bl (decide (a = b))) H) ta tb) σ H (.bl (decide (a = b))) := fun H1 e Q q =>
  ha H1 e _ fun H2 e2 => hb H2 (e.trans e2) _ fun H3 e3 => ⟨a, b, rfl, rfl, q H3 (e2.trans e3)⟩
theorem ev_isnotB {a b : Bool} (ha : Ev ta σ H (.bl a)) (hb : Ev tb σ H (.bl b)) : Ev (tOp (fun x y H Q => ∃ a b, x = .bl a ∧ y = .bl b ∧ Q (.bl (!decide (a = b))) H) ta tb) σ H (.bl (!decide (a = b))) := fun H1 e Q q =>
  ha H1 e _ fun H2 e2 => hb H2 (e.trans e2) _ fun H3 e3 => ⟨a, b, rfl, rfl, q H3 (e2.trans e3)⟩
/-- an instance with these fields -/
def isIns (C : Addr) (fs : List (Str × V)) : V → Hp → Prop := fun v H => ∃ p dx, v = .ref p ∧ H p = some (.ins C dx fs)
theorem mo_ins {C : Addr} {fs : List (Str × V)} : Mo (isIns C fs) := fun _ _ _ e ⟨p, dx, h1, h2⟩ => ⟨p, dx, h1, e p _ h2⟩
theorem ev_fld {C p dx : Addr} {fs : List (Str × V)} {f : Str} (ha : Ev ta σ H (.ref p)) (h : H p = some (.ins C dx fs)) (c : Cls K C) (n : NoAttr K C f) (hf : fs.lookup f = some v) : Ev (tFld K ta f) σ H v := fun H1 e Q q =>
  ha H1 e _ fun H2 e2 => ⟨p, C, dx, fs, v, rfl, e2 p _ (e p _ h), c, n, hf, q H2 e2⟩
theorem ev_meth {C p dx : Addr} {fs : List (Str × V)} {m : Str} {sp : Sp} {tr : TA} {vs : List V} (ho : Ev ta σ H (.ref p)) (h : H p = some (.ins C dx fs)) (hn : fs.lookup m = none) (ha : EvA tr σ H vs) (hs : SpV sp (.ref p :: (vs ++ [])) H v) : Ev (tMeth C m sp [] E ta tr) σ H v := fun H1 e Q q =>
  ho H1 e _ fun H2 e2 => ⟨p, dx, fs, rfl, e2 p _ (e p _ h), hn, ha H2 (e.trans e2) _ fun H3 e3 => hs H3 ((e.trans e2).trans e3) Q (fun H4 e4 => q H4 ((e2.trans e3).trans e4)) E⟩
/-- what __init__ promises -/
def spInit (C : Addr) (n : Nat) (fs : List V → List (Str × V)) : Sp := fun vs H Q _ => ∃ (p dx : Addr) (us : List V), vs = .ref p :: us ∧ us.length = n ∧ H p = some (.ins C dx []) ∧ ∀ H', (∀ b o, H b = some o → b ≠ p → H' b = some o) → H' p = some (.ins C dx (fs us)) → Q .non H'
theorem ep_make {C : Addr} {n : Nat} {fs : List V → List (Str × V)} {tr : TA} {vs : List V} (ha : EvA tr σ H vs) (hn : vs.length = n) : EvP (tMake C (spInit C n fs) [] E tr) σ H (isIns C (fs vs)) := fun H1 e Q q =>
  ha H1 e _ fun H2 e2 x dx hx hdx hne => ⟨x, dx, vs ++ [], rfl, by rw [List.append_nil]; exact hn, upd_same, fun H' hk hp => ⟨rfl, q _ H' (e2.trans fun b o hb => hk b o (by
    rw [upd_ne (ne_of_none hb hx), upd_ne (ne_of_none hb hdx)]
    exact hb) (ne_of_none hb hx)) ⟨x, dx, rfl, by rw [List.append_nil] at hp; exact hp⟩⟩⟩
theorem ep_makeNew {C : Addr} {n : Nat} {fs : List V → List (Str × V)} {tr : TA} {vs : List V} (ha : EvA tr σ H vs) (hn : vs.length = n) : EvP (tMake C (spInit C n fs) [] E tr) σ H (fun v H' => isIns C (fs vs) v H') := ep_make ha hn
/-- the receiver and what is handed in told by words -/
theorem ev_methP {C : Addr} {fs : List (Str × V)} {m : Str} {sp : Sp} {tr : TA} (ho : EvP ta σ H (isIns C fs)) (hn : fs.lookup m = none) (ha : EvAP tr σ H Ps) (hs : ∀ p dx vs H1, Ex H H1 → H1 p = some (.ins C dx fs) → AllP H1 Ps vs → SpV sp (.ref p :: vs) H1 v) : Ev (tMeth C m sp [] E ta tr) σ H v := fun H1 e Q q =>
  ho H1 e _ fun w H2 e2 ⟨p, dx, hw, hp⟩ => ⟨p, dx, fs, hw, hp, hn, ha H2 (e.trans e2) _ fun vs H3 e3 ps => by
    subst hw
    have := hs p dx vs H3 ((e.trans e2).trans e3) (e3 p _ hp) ps H3 (Ex.refl H3) Q (fun H4 e4 => q H4 ((e2.trans e3).trans e4)) E
    rw [← List.append_nil vs] at this
    exact this⟩
theorem s_forP {R : List V → Hp → Prop} {j : Nat} {tu : TS} {D : Ends} (h : EvP tl σ H (fun v H' => ∃ p xs, v = .ref p ∧ H' p = some (.lst xs) ∧ R xs H'))
    (Pv : Addr → List V → Nat → L2.St → Hp → Prop) (h0 : ∀ p xs H1, Ex H H1 → H1 p = some (.lst xs) → R xs H1 → Pv p xs 0 σ H1) (hl : ∀ p xs i σ' H', i ≤ xs.length → Pv p xs i σ' H' → SqL K H' p xs)
    (hs : ∀ p xs i x σ' H', xs[i]? = some x → Pv p xs i σ' H' → tu { D with nx := Pv p xs (i + 1), ct := Pv p xs (i + 1), bk := D.nx } (σ'.set j (some x)) H') (hd : ∀ p xs σ' H', Pv p xs xs.length σ' H' → D.nx σ' H') :
    tFor (iList K tl) (gName j) tu D σ H :=
  h H (Ex.refl H) _ fun v H1 e ⟨p, xs, h1, h2, h3⟩ => by
    subst h1
    exact ⟨p, rfl, ⟨xs, sq_of h2⟩, for_list (D := D) (Pv p xs) (h0 p xs H1 e h2 h3) (hl p xs) (hs p xs) (hd p xs)⟩
theorem s_forNLn {xs : List V} {j : Nat} {tu : TS} {D : Ends} (h : EvL tl σ H xs) (Pv : Addr → Nat → L2.St → Hp → Prop) (h0 : ∀ p H1, H p = none → Ex H H1 → H1 p = some (.lst xs) → Pv p 0 σ H1) (hl : ∀ p i σ' H', i ≤ xs.length → Pv p i σ' H' → SqL K H' p xs)
    (hs : ∀ p i x σ' H', xs[i]? = some x → Pv p i σ' H' → tu { D with nx := Pv p (i + 1), ct := Pv p (i + 1), bk := D.nx } (σ'.set j (some x)) H') (hd : ∀ p σ' H', Pv p xs.length σ' H' → D.nx σ' H') : tFor (iList K tl) (gName j) tu D σ H :=
  s_forNL h Pv h0 hl hs hd
/-- a display all of whose items are heaps -/
theorem disp_h {n : Nat} (h : EvP te σ H (isDisp (List.replicate n isH))) : EvP te σ H (fun v H' => ∃ p xs, v = .ref p ∧ H' p = some (.lst xs) ∧ ∀ x ∈ xs, isH x H') := h.imp fun v H2 e2 hv => by
  obtain ⟨p, xs, e, h, hA⟩ := hv
  refine ⟨p, xs, e, h, fun x hx => ?_⟩
  obtain ⟨i, hi⟩ := List.getElem?_of_mem hx
  obtain ⟨P', hP', hx'⟩ := hA.get hi
  rw [(List.mem_replicate.mp (List.mem_of_getElem? hP')).2] at hx'
  exact hx'
theorem mo_repH {n : Nat} : ∀ P ∈ List.replicate n isH, Mo P := fun P hP => by rw [(List.mem_replicate.mp hP).2]; exact mo_h
theorem ep_h {ns : List Nat} (hs : Hs ns) (h : EvL te σ H (LI ns)) : EvP te σ H isH := ep_el h fun b H2 _ h2 => ⟨b, ns, rfl, hs, h2⟩
theorem ep_hv {ns : List Nat} {a : Addr} (hs : Hs ns) (h : Ev te σ H (.ref a)) (ha : H a = some (.lst (LI ns))) : EvP te σ H isH := ep_ev h fun H2 e2 => ⟨a, ns, rfl, hs, e2 a _ ha⟩
theorem ev_altL {t1 t2 : TE} (h : Ev t1 σ H v) : Ev (tAlt t1 t2) σ H v := fun H1 e Q q => .inl (h H1 e Q q)
theorem ev_altR {t1 t2 : TE} (h : Ev t2 σ H v) : Ev (tAlt t1 t2) σ H v := fun H1 e Q q => .inr (h H1 e Q q)
end
end Evl
namespace Ch
open PySem L2
/-! texts of signs -/
theorem mul_mk (b : Bool) {k : Int} {n : Nat} (hk : k = (n : Int)) : Txt.mul (mk [b]) k = mk (List.replicate n b) := by
  subst hk
  unfold Txt.mul
  by_cases h0 : n = 0
  · subst h0
    rw [if_pos (by decide)]
    rfl
  · rw [if_neg (by omega)]
    have hlen : ((mk [b]).length == 0) = false := by rw [mk_len]; rfl
    by_cases h1 : n = 1
    · subst h1
      rw [if_pos (by simp)]
      rfl
    · rw [if_neg (by rw [hlen, Bool.or_false]; simp; omega), Int.toNat_natCast]
      have key : ∀ (m : Nat) (acc : Array Nat), (List.replicate m (mk [b]).cps).foldl (· ++ ·) acc = acc ++ (List.replicate m (sg b)).toArray := fun m => by
        induction m with
        | zero => intro acc; simp
        | succ m ih =>
          intro acc
          rw [List.replicate_succ, List.foldl_cons, ih, List.replicate_succ]
          show acc ++ #[sg b] ++ (List.replicate m (sg b)).toArray = _
          apply Array.ext'
          simp
      rw [key]
      show Str.mk _ = Str.mk ((List.replicate n b).map sg).toArray
      rw [List.map_replicate]
      simp
theorem sgx : ("x" : Str) = mk [true] := by decide +kernel
theorem sgm : ("-" : Str) = mk [false] := by decide +kernel
theorem rev_mk (bs : List Bool) : (⟨(mk bs).cps.toList.reverse.toArray⟩ : Str) = mk bs.reverse := by
  rw [mk_cps, ← List.map_reverse]
  rfl
theorem strip_mk (bs : List Bool) : Txt.stripChars (mk bs) ("x-" : Str) = ("" : Str) := by
  have hg : ∀ c ∈ (mk bs).cps.toList, ("x-" : Str).cps.contains c = true := fun c hc => by
    rw [mk_cps] at hc
    obtain ⟨b, _, rfl⟩ := List.mem_map.mp hc
    cases b <;> decide +kernel
  have htw : (mk bs).cps.toList.takeWhile ("x-" : Str).cps.contains = (mk bs).cps.toList := by
    have : ∀ l : List Nat, (∀ c ∈ l, ("x-" : Str).cps.contains c = true) → l.takeWhile ("x-" : Str).cps.contains = l := fun l h => by
      induction l with
      | nil => rfl
      | cons a r ih => rw [List.takeWhile_cons, if_pos (h a List.mem_cons_self), ih fun c hc => h c (List.mem_cons_of_mem _ hc)]
    exact this _ hg
  have hlo : PySem.stripLo ("x-" : Str).cps.contains true (mk bs) = bs.length := by
    unfold PySem.stripLo
    rw [if_pos rfl, htw, mk_cps, List.length_map]
  have hhi : PySem.stripHi ("x-" : Str).cps.contains true (mk bs) bs.length = bs.length := by
    unfold PySem.stripHi
    rw [if_pos rfl, List.drop_of_length_le (by rw [mk_cps, List.length_map]; exact Nat.le_refl _)]
    show (mk bs).length - 0 = _
    rw [mk_len]; rfl
  unfold Txt.stripChars Txt.stripBy
  by_cases h0 : bs = []
  · subst h0
    split
    · exact mk_nil
    · unfold PySem.stripped
      rw [hlo, hhi]
      decide +kernel
  · rw [if_neg ?_]
    · unfold PySem.stripped
      rw [hlo, hhi]
      show Str.mk ((mk bs).cps.extract bs.length bs.length) = _
      have : (mk bs).cps.extract bs.length bs.length = #[] := by
        apply Array.ext'
        simp
      rw [this]
      rfl
    · unfold PySem.stripSame
      rw [hlo]
      have : (bs.length == 0) = false := by
        cases bs with
        | nil => exact absurd rfl h0
        | cons _ _ => rfl
      rw [this]
      simp
theorem dash_mk (bs : List Bool) : decide ((45 : Nat) ∈ (mk bs).cps.toList) = decide (nt bs < bs.length) := by
  rw [mk_cps]
  have : (45 ∈ bs.map sg) ↔ nt bs < bs.length := by
    induction bs with
    | nil => simp [nt]
    | cons b r ih =>
      rw [List.map_cons, List.mem_cons, nt_cons, List.length_cons]
      cases b with
      | true =>
        have : ¬ (45 = sg true) := by decide
        have e : Bool.toNat true = 1 := rfl
        constructor
        · rintro (h | h)
          · exact absurd h this
          · have := ih.mp h; omega
        · intro h; exact .inr (ih.mpr (by omega))
      | false =>
        have e : Bool.toNat false = 0 := rfl
        have := nt_le r
        constructor
        · intro _; omega
        · intro _; exact .inl rfl
  by_cases h : 45 ∈ bs.map sg
  · rw [decide_eq_true h, decide_eq_true (this.mp h)]
  · rw [decide_eq_false h, decide_eq_false fun z => h (this.mpr z)]
theorem sgm1 : ("-" : Str) = ⟨#[45]⟩ := by decide +kernel
end Ch
/-! isinstance of own classes; comprehensions told by words; lists of texts -/
namespace L2
open PySem PySem.Spec PyProof.Rows
/-- what isinstance asks of an own class -/
structure Tyc (K : PySem.W.Frag) (C : Addr) : Prop where
  cl : Cls K C
  ha : PySem.W.findIn K (.ref C) "__class__" = some (some (.builtin "object.__class__"))
  hn : PySem.W.specialIn K (.builtin "object.__class__") "__get__" = some (some (.builtin "getset_descriptor.__get__"))
  htk : PySem.W.takesIn K (.builtin "object.__class__") = some true
  hm : PySem.W.mroIn K C (.type "object") = some true
theorem kit_own {K : PySem.W.Frag} {C D : Addr} {b : Bool} (hc : PySem.W.isClsIn K D = true) (ht : PySem.W.typeIn K (.ref D) = some (.type "type")) (hs : PySem.W.subIn K (.ref C) (.ref D) = some b) (hself : PySem.W.subIn K (.ref C) (.ref C) = some true) : PySem.W.kitOne K (.ref C) (.ref D) = some b := by
  unfold PySem.W.kitOne
  by_cases h : C = D
  · subst h
    rw [hself] at hs
    cases hs
    exact if_pos (beq_self_eq_true _)
  · rw [if_neg (fun z => h (by injection eq_of_beq z))]
    show (if ((PySem.W.clsIn K D).isSome && PySem.W.typeIn K (.ref D) == some (.type "type")) = true then PySem.W.subIn K (.ref C) (.ref D) else none) = some b
    have hc' : (PySem.W.clsIn K D).isSome = true := hc
    rw [hc', ht, if_pos (by rw [Bool.true_and]; exact beq_self_eq_true _)]
    exact hs
structure Cly (K : PySem.W.Frag) (mg : Str → Option Value) (A R S : Addr) : Prop where
  gA : mg "Answer" = some (.ref A)
  gR : mg "Round" = some (.ref R)
  gS : mg "Straight" = some (.ref S)
  tR : Tyc K R
  tS : Tyc K S
  kRA : PySem.W.kitOne K (.ref R) (.ref A) = some true
  kRR : PySem.W.kitOne K (.ref R) (.ref R) = some true
  kRS : PySem.W.kitOne K (.ref R) (.ref S) = some false
  kSA : PySem.W.kitOne K (.ref S) (.ref A) = some true
  kSR : PySem.W.kitOne K (.ref S) (.ref R) = some false
  kSS : PySem.W.kitOne K (.ref S) (.ref S) = some true
end L2
namespace Evl
open PySem L2 Ch
section
variable {K : PySem.W.Frag} {σ : L2.St} {H H' : Hp} {ta tb tc te tl : TE} {t : TT} {x y v : V} {P P' : V → Hp → Prop} {Ps Rs : List (V → Hp → Prop)} {E : XK}
theorem ev_isiO {D : Addr} {ty : Value} {b : Bool} (ha : Ev ta σ H x) (hb : Ev tb σ H (.ref D)) (hty : ∀ H1, Ex H H1 → TyX K H1 x ty) (hk : PySem.W.kitOne K ty (.ref D) = some b) : Ev (tCB (rIsi K) (tCons ta (tCons tb tNil))) σ H (.bl b) := fun H1 e Q q =>
  ha H1 e _ fun H2 e2 => hb H2 (e.trans e2) _ fun H3 e3 => ⟨x, .ref D, ty, .ref D, b, rfl, .own D, hty H3 ((e.trans e2).trans e3), hk, q H3 (e2.trans e3)⟩
theorem ty_ins {p C dx : Addr} {fs : List (Str × V)} (c : Tyc K C) (h : H p = some (.ins C dx fs)) : ∀ H1, Ex H H1 → TyX K H1 (.ref p) (.ref C) := fun _ e => .base (.ins (e p _ h) c.cl c.ha c.hn c.htk c.hm)
theorem ty_tup {a : Addr} {xs : List V} (h : H a = some (.tup xs)) : ∀ H1, Ex H H1 → TyX K H1 (.ref a) (.type "tuple") := fun _ e => .base (.tup (e a _ h))
theorem ty_non : ∀ H1, Ex H H1 → TyX K H1 .non (.type "NoneType") := fun _ _ => .base .non
/-- [e for a, b in xs], xs pairs -/
theorem el_lcLT {a : Addr} {xs : List V} {tl : TE} {j1 j2 : Nat} {vs : List Nat} (g : Nat → V) (h : Ev tl σ H (.ref a)) (hx : SqL K H a xs) (hz : xs.length ≤ 40000) (hw : ∀ x y, wipe (((wipe σ vs).set j1 (some x)).set j2 (some y)) vs = wipe σ vs)
    (hp : ∀ i v, xs[i]? = some v → ∃ p x y, v = .ref p ∧ H p = some (.tup [x, y]) ∧ ∀ H1, Ex H H1 → Ev te (((wipe σ vs).set j1 (some x)).set j2 (some y)) H1 (g i)) :
    EvL (tLc (iList K tl) (gTup K 2 (gCons (gName j1) (gCons (gName j2) gNil))) tYes te vs) σ H ((List.range xs.length).map g) := fun H0 e Q q => h H0 e _ fun H1 e1 => ⟨a, rfl, ⟨xs, ex_l (e.trans e1) hx⟩, fun Dl hD => by
  have eg : (List.range xs.length).map g = given xs.length (fun _ => true) g := by unfold given; rw [filter_true]
  rw [eg] at q
  exact lc_list (xs := xs) (Cw H1 (fun _ => true) g Dl) ⟨hD, Ex.new hD, upd_same⟩ (fun i H' _ p => ex_l ((e.trans e1).trans p.2.1) hx) (fun i x H' hi p => by
    obtain ⟨t, x1, y1, rfl, ht, hev⟩ := hp i x hi
    exact ⟨t, [x1, y1], rfl, .inl (.inl ((e.trans e1).trans p.2.1 t _ ht)), rfl, x1, [y1], rfl, y1, [], rfl, rfl, hw _ _, cw_turn p (by have := (List.getElem?_eq_some_iff.mp hi).1; omega) et_yes (fun _ => hev H1 (e.trans e1))⟩)
    (fun H' p => q Dl H' (fresh_back e1 p.1) (e1.trans p.2.1) p.2.2)⟩
/-- a word that hangs on no list -/
def NoL (P : V → Hp → Prop) : Prop := ∀ v H' D acc, H' D = some (.lst acc) → P v H' → P v (less H' D)
theorem nol_ins {C : Addr} {fs : List (Str × V)} : NoL (isIns C fs) := fun v H' D acc h ⟨p, dx, h1, h2⟩ => ⟨p, dx, h1, by rw [less_at (ne_of h2 h (by intro z; cases z))]; exact h2⟩
theorem nol_v {x : V} : NoL (isV x) := fun _ _ _ _ _ h => h
/-- [e for x in (a, b, ..)], items and what they come to told by words -/
theorem ep_lcTP {tl : TE} {j : Nat} {vs : List Nat} (h : EvP tl σ H (isTup Ps)) (mo : ∀ P ∈ Ps, Mo P) (mr : ∀ P ∈ Rs, Mo P) (hno : ∀ P ∈ Rs, NoL P) (hlen : Ps.length = Rs.length) (hz : Rs.length ≤ 40000) (hw : ∀ x, wipe ((wipe σ vs).set j (some x)) vs = wipe σ vs)
    (he : ∀ (i : Nat) (P R : V → Hp → Prop) (x : V) H1, Ps[i]? = some P → Rs[i]? = some R → Ex H H1 → P x H1 → EvP te ((wipe σ vs).set j (some x)) H1 R) :
    EvP (tLc (iTup K tl) (gName j) tYes te vs) σ H (isDisp Rs) := fun H0 e Q q => h H0 e _ fun v H1 e1 hv => by
  obtain ⟨a, xs, rfl, hx, hA⟩ := hv
  refine ⟨a, rfl, ⟨xs, .inl (.inl hx)⟩, fun Dl hD => ?_⟩
  refine lc_tup (xs := xs) (fun i H' => ∃ acc, Ex H1 H' ∧ H' Dl = some (.lst acc) ∧ AllP (less H' Dl) (Rs.take i) acc) ⟨[], Ex.new hD, upd_same, by rw [List.take_zero]; exact .nil⟩ (fun i H' _ p => ?_) (fun i x H' hi p => ?_) (fun H' p => ?_)
  · obtain ⟨_, eX, _⟩ := p
    exact .inl (.inl (eX a _ hx))
  · obtain ⟨acc, eX, hd, hac⟩ := p
    have hil := (List.getElem?_eq_some_iff.mp hi).1
    have hxl : xs.length = Ps.length := hA.len
    obtain ⟨P1, hP1, hx1⟩ := hA.get hi
    have hR1 : Rs[i]? = some Rs[i] := List.getElem?_eq_getElem (by omega)
    refine ⟨hw x, ?_⟩
    show te ((wipe σ vs).set j (some x)) H' fun y H4 => ∃ acc', H4 Dl = some (.lst acc') ∧ acc'.length < sizeLine ∧ ∃ acc, Ex H1 (upd H4 Dl (.lst (acc' ++ [y]))) ∧ upd H4 Dl (.lst (acc' ++ [y])) Dl = some (.lst acc) ∧ AllP (less (upd H4 Dl (.lst (acc' ++ [y]))) Dl) (Rs.take (i + 1)) acc
    refine he i P1 Rs[i] x H' hP1 hR1 ((e.trans e1).trans eX) (mo _ (List.mem_of_getElem? hP1) _ _ _ eX hx1) H' (Ex.refl _) _ fun y H4 e4 hy => ?_
    have hacl : acc.length = i := by rw [hac.len, List.length_take]; omega
    have hmem : Rs[i] ∈ Rs := List.getElem_mem (by omega)
    have hd4 := e4 Dl _ hd
    have hD1 : H1 Dl = none := hD
    refine ⟨acc, hd4, sz_lt (by omega), acc ++ [y], Ex.mut (eX.trans e4) hD1, upd_same, ?_⟩
    rw [less_upd, List.take_add_one, hR1]
    exact (hac.mono (fun P hP => mr P (List.mem_of_mem_take hP)) (less_mono e4)).snoc (hno _ hmem _ _ _ _ hd4 hy)
  · obtain ⟨acc, eX, hd, hac⟩ := p
    have hxl : xs.length = Ps.length := hA.len
    rw [List.take_of_length_le (by omega)] at hac
    exact q _ H' (e1.trans eX) ⟨Dl, acc, rfl, hd, hac.mono mr less_ex⟩
theorem cut_takeL (xs : List V) (k : Nat) : cutV xs none (some (k : Int)) = xs.take k := by
  unfold cutV
  rw [HT.sIx_nat, HT.sIx_none, List.drop_zero, Nat.sub_zero]
  rcases Nat.le_total k xs.length with h | h
  · rw [Nat.min_eq_left h]
  · rw [Nat.min_eq_right h, List.take_of_length_le (Nat.le_refl _), List.take_of_length_le h]
/-- all([e for x in xs]), e True of each -/
theorem ev_allL {a : Addr} {xs : List V} {tl : TE} {j : Nat} {vs : List Nat} (h : Ev tl σ H (.ref a)) (hx : SqL K H a xs) (hz : xs.length ≤ 40000) (hw : ∀ x, wipe ((wipe σ vs).set j (some x)) vs = wipe σ vs)
    (he : ∀ x ∈ xs, ∀ H1, Ex H H1 → Ev te ((wipe σ vs).set j (some x)) H1 (.bl true)) : Ev (tCB (rAll K) (tCons (tLc (iList K tl) (gName j) tYes te vs) tNil)) σ H (.bl true) := by
  have h1 := el_lcL (K := K) (t := tYes) (te := te) (fun _ => true) (fun _ => V.bl true) h hx hz hw (fun _ _ _ _ _ => et_yes) (fun i x H1 e hi _ => he x (List.mem_of_getElem? hi) H1 e)
  have e : given xs.length (fun _ => true) (fun _ => V.bl true) = (List.replicate xs.length true).map V.bl := by
    unfold given
    rw [filter_true]
    refine List.ext_getElem? fun i => ?_
    by_cases h : i < xs.length
    · rw [List.getElem?_map, List.getElem?_range h, List.getElem?_map, List.getElem?_replicate, if_pos h]; rfl
    · rw [List.getElem?_eq_none (by simp; omega), List.getElem?_eq_none (by simp; omega)]
  rw [e] at h1
  have h2 := ev_allN (K := K) h1
  rw [show (List.replicate xs.length true).all id = true by simp] at h2
  exact h2
/-! lists of texts as data -/
def dS (ss : List Str) : PyData := .list (ss.map .str)
theorem dpS {a : Addr} {ss : List Str} (h : SqL K H a (ss.map V.str)) : Dp K H (.ref a) (dS ss) := by
  refine .lst h ?_
  clear h
  induction ss with
  | nil => exact .nil
  | cons n r ih => exact .cons (.str n) ih
theorem ep_strs {ss : List Str} (h : EvL te σ H (ss.map V.str)) : EvP te σ H (IsD K (dS ss)) := ep_el h fun a H1 _ h1 => dpS (sq_of h1)
end
end Evl
/-! how many rounds: sums over turns, over parts -/
namespace Ch
/-! picks -/
def ch : Nat → Nat → Nat
  | _, 0 => 1
  | 0, _ + 1 => 0
  | m + 1, k + 1 => ch m k + ch m (k + 1)
theorem ch_zero (m : Nat) : ch m 0 = 1 := by cases m <;> rfl
theorem ch_big : ∀ (m k : Nat), m < k → ch m k = 0
  | 0, 0, h => by omega
  | 0, k + 1, _ => rfl
  | m + 1, 0, h => by omega
  | m + 1, k + 1, h => by
    show ch m k + ch m (k + 1) = 0
    rw [ch_big m k (by omega), ch_big m (k + 1) (by omega)]
theorem ch_step : ∀ (m k : Nat), ch m k * (m - k) = ch m (k + 1) * (k + 1)
  | 0, k => by simp [ch]
  | m + 1, 0 => by
    have ih := ch_step m 0
    rw [ch_zero] at ih ⊢
    show 1 * (m + 1 - 0) = (ch m 0 + ch m 1) * (0 + 1)
    rw [ch_zero]
    simp at ih ⊢
    omega
  | m + 1, k + 1 => by
    have h1 := ch_step m k
    have h2 := ch_step m (k + 1)
    show (ch m k + ch m (k + 1)) * (m + 1 - (k + 1)) = (ch m (k + 1) + ch m (k + 2)) * (k + 2)
    have e : m + 1 - (k + 1) = m - k := by omega
    rw [e, Nat.add_mul, Nat.add_mul, h1]
    rcases Nat.lt_or_ge k m with hk | hk
    · have e2 : m - k = (m - (k + 1)) + 1 := by omega
      have e5 : ch m (k + 1) * (m - k) = ch m (k + 1 + 1) * (k + 1 + 1) + ch m (k + 1) := by rw [e2, Nat.mul_succ, h2]
      rw [e5]
      have e3 : ch m (k + 1) * (k + 2) = ch m (k + 1) * (k + 1) + ch m (k + 1) := by rw [← Nat.mul_succ]
      have e4 : ch m (k + 1 + 1) * (k + 1 + 1) = ch m (k + 2) * (k + 2) := rfl
      rw [e3, e4]
      generalize ch m (k + 1) * (k + 1) = x
      generalize ch m (k + 2) * (k + 2) = y
      omega
    · rw [ch_big m (k + 1) (by omega), ch_big m (k + 2) (by omega)]
      have : m - k = 0 := by omega
      rw [this]
      simp
def pk (m : Nat) : Nat → Nat
  | 0 => 1
  | k + 1 => pk m k * (m - k) / (k + 1)
theorem pk_ch (m : Nat) : ∀ k, pk m k = ch m k
  | 0 => (ch_zero m).symm
  | k + 1 => by
    show pk m k * (m - k) / (k + 1) = _
    rw [pk_ch m k, ch_step, Nat.mul_div_cancel _ (by omega)]
def ab (m : Nat) : Nat → Nat
  | 0 => 1
  | k + 1 => ab m k * (m - k)
def fc : Nat → Nat
  | 0 => 1
  | k + 1 => fc k * (k + 1)
theorem fc_pos : ∀ k, 0 < fc k
  | 0 => by decide
  | k + 1 => Nat.mul_pos (fc_pos k) (by omega)
theorem ab_ch (m : Nat) : ∀ k, ab m k = ch m k * fc k
  | 0 => by rw [ch_zero]; rfl
  | k + 1 => by
    show ab m k * (m - k) = ch m (k + 1) * (fc k * (k + 1))
    rw [ab_ch m k, Nat.mul_right_comm, ch_step, Nat.mul_assoc, Nat.mul_comm (k + 1) (fc k)]
theorem picks_one (m k : Nat) : ab m k / fc k = pk m k := by rw [ab_ch, pk_ch, Nat.mul_div_cancel _ (fc_pos k)]
/-! sums -/
theorem su_swap (a : Nat → Nat → Nat) (n : Nat) : ∀ m, su (fun i => su (fun j => a i j) n) m = su (fun j => su (fun i => a i j) m) n
  | 0 => by
    show 0 = su (fun _ => 0) n
    induction n with
    | zero => rfl
    | succ n ih => show 0 = su (fun _ => 0) n + 0; omega
  | m + 1 => by
    show su (fun i => su (fun j => a i j) n) m + su (fun j => a m j) n = _
    rw [su_swap a n m, ← su_add]
    rfl
theorem su_mulc (f : Nat → Nat) (c : Nat) : ∀ n, su (fun j => f j * c) n = su f n * c
  | 0 => by show 0 = 0 * c; omega
  | n + 1 => by
    show su (fun j => f j * c) n + f n * c = (su f n + f n) * c
    rw [su_mulc f c n, Nat.add_mul]
theorem su_zero {f : Nat → Nat} : ∀ n, (∀ j, j < n → f j = 0) → su f n = 0
  | 0, _ => rfl
  | n + 1, h => by
    show su f n + f n = 0
    rw [su_zero n fun j hj => h j (by omega), h n (by omega)]
theorem su_pick (f : Nat → Nat) (x : Nat) : ∀ n, su (fun j => (if x = j then 1 else 0) * f j) n = if x < n then f x else 0
  | 0 => rfl
  | n + 1 => by
    show su (fun j => (if x = j then 1 else 0) * f j) n + (if x = n then 1 else 0) * f n = _
    rw [su_pick f x n]
    by_cases h1 : x < n
    · rw [if_pos h1, if_neg (by omega), if_pos (by omega)]; omega
    · rw [if_neg h1]
      by_cases h2 : x = n
      · rw [if_pos h2, if_pos (by omega), h2]; omega
      · rw [if_neg h2, if_neg (by omega)]; omega
theorem su_split (f : Nat → Nat) (a : Nat) : ∀ b, su f (a + b) = su f a + su (fun j => f (a + j)) b
  | 0 => by show su f a = su f a + 0; omega
  | b + 1 => by
    show su f (a + b) + f (a + b) = su f a + (su (fun j => f (a + j)) b + f (a + b))
    rw [su_split f a b]; omega
/-- only the k-th places count -/
theorem su_every {f : Nat → Nat} {k : Nat} (hk : 0 < k) (h : ∀ j, f j ≠ 0 → k ∣ j) : ∀ n, su f (k * n) = su (fun t => f (k * t)) n
  | 0 => by simp [su]
  | n + 1 => by
    rw [Nat.mul_succ, su_split, su_every hk h n]
    show _ = su (fun t => f (k * t)) n + f (k * n)
    congr 1
    obtain ⟨c, hc⟩ : ∃ c, k = c + 1 := ⟨k - 1, by omega⟩
    have e : su (fun j => f (k * n + j)) k = su (fun j => f (k * n + j)) (c + 1) := by rw [← hc]
    rw [e, su_front]
    have : su (fun j => f (k * n + (j + 1))) c = 0 := su_zero c fun j hj => by
      rcases Nat.eq_zero_or_pos (f (k * n + (j + 1))) with h0 | h0
      · exact h0
      · exfalso
        have hd := h (k * n + (j + 1)) (Nat.pos_iff_ne_zero.mp h0)
        have h2 : k ∣ j + 1 := (Nat.dvd_add_right (Nat.dvd_mul_right k n)).mp hd
        have := Nat.le_of_dvd (by omega) h2
        omega
    rw [this]; rfl
/-! steps by what they have in common -/
def ph (z : Nat) : Nat := su (fun t => if Nat.gcd z (t + 1) = 1 then 1 else 0) z
theorem ph_zero (z : Nat) : su (fun t => if Nat.gcd z t = 1 then 1 else 0) z = ph z := by
  have h := su_front (fun t => if Nat.gcd z t = 1 then 1 else 0) z
  have h2 : su (fun t => if Nat.gcd z t = 1 then 1 else 0) (z + 1) = su (fun t => if Nat.gcd z t = 1 then 1 else 0) z + (if Nat.gcd z z = 1 then 1 else 0) := rfl
  have e : (if Nat.gcd z 0 = 1 then 1 else 0 : Nat) = (if Nat.gcd z z = 1 then 1 else 0) := by
    by_cases hz : z = 1
    · subst hz; rfl
    · rw [if_neg (by rw [Nat.gcd_zero_right]; exact hz), if_neg (by rw [Nat.gcd_self]; exact hz)]
  unfold ph
  omega
theorem div_gcd_pos {m s : Nat} (hm : 0 < m) : 0 < m / Nat.gcd m s := Nat.div_pos (Nat.le_of_dvd hm (Nat.gcd_dvd_left m s)) (Nat.gcd_pos_of_pos_left s hm)
/-- how many steps of so many have a part of that size -/
theorem count_size {m : Nat} (hm : 0 < m) (z : Nat) (hz : 0 < z) : su (fun s => if m / Nat.gcd m s = z then 1 else 0) m = if z ∣ m then ph z else 0 := by
  by_cases hd : z ∣ m
  · rw [if_pos hd]
    obtain ⟨k, hk⟩ := hd
    have hk0 : 0 < k := by
      rcases Nat.eq_zero_or_pos k with e | e
      · rw [e] at hk; omega
      · exact e
    have hg : ∀ s, (m / Nat.gcd m s = z) ↔ Nat.gcd m s = k := fun s => by
      have hgd := Nat.gcd_dvd_left m s
      have hgp := Nat.gcd_pos_of_pos_left s hm
      constructor
      · intro h
        have h1 := Nat.div_mul_cancel hgd
        rw [h, hk] at h1
        exact Nat.eq_of_mul_eq_mul_left hz (by rw [← hk] at h1; rw [hk] at h1 ⊢; exact h1)
      · intro h
        rw [h, hk, Nat.mul_div_cancel _ hk0]
    have e1 : su (fun s => if m / Nat.gcd m s = z then 1 else 0) m = su (fun s => if Nat.gcd m s = k then 1 else 0) m := su_congr m fun s _ => by
      by_cases h : m / Nat.gcd m s = z
      · rw [if_pos h, if_pos ((hg s).mp h)]
      · rw [if_neg h, if_neg fun q => h ((hg s).mpr q)]
    rw [e1]
    have e2 : m = k * z := by rw [hk, Nat.mul_comm]
    have e3 : su (fun s => if Nat.gcd m s = k then 1 else 0) m = su (fun s => if Nat.gcd m s = k then 1 else 0) (k * z) := by rw [← e2]
    rw [e3, su_every hk0 fun j hj => ?_, ← ph_zero]
    · refine su_congr z fun t _ => ?_
      have : Nat.gcd m (k * t) = k * Nat.gcd z t := by rw [e2, Nat.gcd_mul_left]
      rw [this]
      by_cases h : Nat.gcd z t = 1
      · rw [if_pos h, if_pos (by rw [h, Nat.mul_one])]
      · rw [if_neg h, if_neg fun q => h (Nat.eq_of_mul_eq_mul_left hk0 (by rw [q, Nat.mul_one]))]
    · by_cases h : Nat.gcd m j = k
      · rw [← h]; exact Nat.gcd_dvd_right m j
      · rw [if_neg h] at hj; exact absurd rfl hj
  · rw [if_neg hd]
    refine su_zero m fun s _ => if_neg fun h => hd ?_
    rw [← h]
    exact Nat.div_dvd_of_dvd (Nat.gcd_dvd_left m s)
theorem parts_eq {m : Nat} (hm : 0 < m) (f : Nat → Nat) : su (fun s => f (m / Nat.gcd m s)) m = su (fun z => if (z + 1) ∣ m then ph (z + 1) * f (z + 1) else 0) m := by
  have e1 : su (fun s => f (m / Nat.gcd m s)) m = su (fun s => su (fun z => (if m / Nat.gcd m s = z + 1 then 1 else 0) * f (z + 1)) m) m := su_congr m fun s _ => by
    have hp := div_gcd_pos (s := s) hm
    have hle : m / Nat.gcd m s ≤ m := Nat.div_le_self _ _
    have e : su (fun z => (if m / Nat.gcd m s = z + 1 then 1 else 0) * f (z + 1)) m = su (fun z => (if m / Nat.gcd m s - 1 = z then 1 else 0) * f (z + 1)) m := su_congr m fun z _ => by
      by_cases h : m / Nat.gcd m s = z + 1
      · rw [if_pos h, if_pos (by omega)]
      · rw [if_neg h, if_neg (by omega)]
    rw [e, su_pick (fun z => f (z + 1)), if_pos (by omega)]
    congr 1
    omega
  rw [e1, su_swap]
  refine su_congr m fun z _ => ?_
  rw [su_mulc, count_size hm (z + 1) (by omega)]
  by_cases h : (z + 1) ∣ m
  · rw [if_pos h, if_pos h]
  · rw [if_neg h, if_neg h, Nat.zero_mul]
/-! rounds -/
def fP (m k z : Nat) : Nat := if k % z = 0 then pk (m / z) (k / z) else 0
def rdS (m k : Nat) : Nat := su (fun s => fP m k (m / Nat.gcd m s)) m
def rn (n : Nat) : Nat := rdS (stairs n + 1) (n - stairs n * (stairs n + 1) / 2) / (stairs n + 1)
def prS (m k : Nat) : Nat := su (fun z => if m % (z + 1) = 0 ∧ k % (z + 1) = 0 then ph (z + 1) * (ab (m / (z + 1)) (k / (z + 1)) / fc (k / (z + 1))) else 0) m
theorem sums_eq {m k : Nat} (hm : 0 < m) : rdS m k = prS m k := by
  unfold rdS prS
  rw [parts_eq hm (fP m k)]
  refine su_congr m fun z _ => ?_
  by_cases h1 : (z + 1) ∣ m
  · rw [if_pos h1]
    unfold fP
    by_cases h2 : k % (z + 1) = 0
    · rw [if_pos h2, if_pos ⟨Nat.mod_eq_zero_of_dvd h1, h2⟩, picks_one]
    · rw [if_neg h2, if_neg fun q => h2 q.2, Nat.mul_zero]
  · rw [if_neg h1, if_neg fun q => h1 (Nat.dvd_of_mod_eq_zero q.1)]
end Ch
/-! the least of texts, rows in order, comprehensions over a text -/
namespace L2
open PySem PySem.Spec PyProof.Rows PySem.W
/-- min of a list of texts -/
def rMinS (K : PySem.W.Frag) : List V → Hp → VK → Prop := fun vs H Q => ∃ (a : Addr) (z : Str) (zs : List Str), vs = [V.ref a] ∧ SqL K H a ((z :: zs).map V.str) ∧ ∀ y, minD (.str z) (zs.map .str) = .str y → Q (.str y) H
theorem dpAll_strs {K : PySem.W.Frag} {H : Hp} : ∀ zs : List Str, DpAll K H (zs.map V.str) (zs.map .str)
  | [] => .nil
  | z :: r => .cons (.str z) (dpAll_strs r)
theorem alike_strs (zs : List Str) : AlikeAll (zs.map .str) := by
  constructor
  · intro x hx y hy
    obtain ⟨a, _, rfl⟩ := List.mem_map.mp hx
    obtain ⟨b, _, rfl⟩ := List.mem_map.mp hy
    simp [alike]
  · intro x hx
    obtain ⟨a, _, rfl⟩ := List.mem_map.mp hx
    exact fun z => nomatch z
theorem depth_strs : ∀ zs : List Str, PyData.depthAll (zs.map .str) = 0
  | [] => by simp [PyData.depthAll]
  | z :: r => by simp [PyData.depthAll, PyData.depth, depth_strs r]
theorem cr_minS {X : Cx} (hc : X.calm = true) (hu : X.A.units + 1 < cLine) : CallR X (.builtin "min") (rMinS X.K) := by
  intro pins s σ H vs us Q I r h
  obtain ⟨a, z, zs, rfl, hs, q⟩ := h
  obtain ⟨its, rv, hl, _⟩ := I.list hs
  rw [Vals.ref1 r]
  obtain ⟨as, hr⟩ := Dp.readsAll I ((z :: zs).map .str) _ its (dpAll_strs (z :: zs)) rv
  refine min_list_data (x := .str z) (xs := zs.map .str) (I.ok.hd hc) hl.isList (by simpa using hr) (alike_strs (z :: zs)) (by
    have := depth_strs (z :: zs)
    rw [List.map_cons] at this
    rw [this]; omega) fun i v h' tk bs hi hR hk => ?_
  have hi' : its[i]? = some v := by simpa using hi
  have key : ∀ (vs : List V) (us : List Value), Vals vs us → ∀ (i : Nat) (u : Value), us[i]? = some u → ∃ x, vs[i]? = some x ∧ RelV x u := fun vs us r => by
    induction r with
    | nil => intro i u h; simp at h
    | cons a b ih =>
      intro i u h
      cases i with
      | zero => cases h; exact ⟨_, rfl, a⟩
      | succ i => exact ih i u h
  obtain ⟨x, hx, rx⟩ := key _ _ rv i v hi'
  rw [List.getElem?_map] at hx
  obtain ⟨y, hy, rfl⟩ := Option.map_eq_some_iff.mp hx
  obtain ⟨t, rfl⟩ := rx
  have em : minD (.str z) (zs.map .str) = .str y := by
    generalize minD (.str z) (zs.map .str) = d at hR
    cases hR
    rfl
  exact ⟨.str y, H, I.kept hk, ⟨t, rfl⟩, q y em⟩
/-- sorted of a list of rows of ints -/
def rSortRows (K : PySem.W.Frag) : List V → Hp → VK → Prop := fun vs H Q => ∃ (a : Addr) (xs : List V) (rows : List (List Int)), vs = [V.ref a] ∧ SqL K H a xs ∧ EachIs (fun x (row : List Int) => Dp K H x (.list (row.map .int))) xs rows ∧
  ∀ (ys : List V) (p : Addr), EachIs (fun y (row : List Int) => Dp K H y (.list (row.map .int))) ys (rows.mergeSort fun x y => decide (x ≤ y)) → H p = none → Q (.ref p) (upd H p (.lst ys))
theorem each_split {H : Hp} {K : PySem.W.Frag} : ∀ {out : List Value} {bs : List (List Int)}, EachIs (fun u (row : List Int) => ∃ x : V, RelV x u ∧ Dp K H x (.list (row.map .int))) out bs → ∃ ys : List V, Vals ys out ∧ EachIs (fun y (row : List Int) => Dp K H y (.list (row.map .int))) ys bs
  | _, _, .nil => ⟨[], .nil, .nil⟩
  | _, _, .cons h t => by
    obtain ⟨x, r, d⟩ := h
    obtain ⟨ys, v, e⟩ := each_split t
    exact ⟨x :: ys, .cons r v, .cons d e⟩
theorem each_join {K : PySem.W.Frag} {H : Hp} : ∀ {xs : List V} {us : List Value} {bs : List (List Int)}, Vals xs us → EachIs (fun x (row : List Int) => Dp K H x (.list (row.map .int))) xs bs → EachIs (fun u (row : List Int) => ∃ x : V, RelV x u ∧ Dp K H x (.list (row.map .int))) us bs
  | _, _, _, .nil, .nil => .nil
  | _, _, _, .cons r rs, .cons d ds => .cons ⟨_, r, d⟩ (each_join rs ds)
theorem cr_sortedRows {X : Cx} (hu : X.A.units + 64 < cLine) : CallR X (.builtin "sorted") (rSortRows X.K) := by
  intro pins s σ H vs us Q I r h
  obtain ⟨a, xs, rows, rfl, hs, hE, q⟩ := h
  obtain ⟨its, rv, hl, hz⟩ := I.list hs
  rw [Vals.ref1 r]
  have e1 := each_join rv hE
  have hlen : its.length = rows.length := e1.length
  refine sorted_data (R := fun u (row : List Int) => ∃ x : V, RelV x u ∧ Dp X.K H x (.list (row.map .int))) (enc := fun row : List Int => .list (row.map .int)) hl.isList e1 (e1.mono fun u row ⟨x, rx, d⟩ => Dp.reads I _ x u d rx) (AllAlike.of fun b b' => by simp [alike, alike_ints]) (Sortable.others fun b => ⟨(fun z => by cases z), (fun _ z => by cases z)⟩) (by rw [← hlen, ← rv.length]; exact hz) (fun b _ => by
    have : (PyData.list (b.map .int)).depth = 1 := by simp [PyData.depth, depth_ints]
    rw [this]; omega) fun out ho eo => ?_
  rw [dataLe_rows (fun b : List Int => b)] at eo
  obtain ⟨ys, v, e⟩ := each_split eo
  obtain ⟨ep, he'⟩ := PyProof.Rows.sortedAll_at s.heap its out.toArray
  have hl2 : ys.length ≤ sizeLine := by rw [v.length, ho, ← hlen, ← rv.length]; exact hz
  exact ⟨.ref _, upd H (s.heap.objs.size + 1) (.lst ys), I.laid (t' := s.toks) (fun _ _ => PyProof.Rows.sortedAll_old) (Nat.le_succ _) ⟨hl2, out, ep, v, he'⟩, rfl, q _ _ e (I.hok.fresh (Nat.le_succ _))⟩
end L2
namespace Evl
open PySem L2 Ch
section
variable {K : PySem.W.Frag} {σ : L2.St} {H H' : Hp} {ta tb tc te tl : TE} {t : TT} {x y v : V} {P P' : V → Hp → Prop} {Ps Rs : List (V → Hp → Prop)} {E : XK}
/-- [e for c in text] -/
theorem el_lcS {z : Str} {j : Nat} {vs : List Nat} (g : Nat → V) (h : Ev ta σ H (.str z)) (hz : z.cps.size ≤ 40000) (hw : ∀ x, wipe ((wipe σ vs).set j (some x)) vs = wipe σ vs)
    (he : ∀ (c : Nat) H1, Ex H H1 → c ∈ z.cps.toList → Ev te ((wipe σ vs).set j (some (.str ⟨#[c]⟩))) H1 (g c)) :
    EvL (tLc (iStr ta) (gName j) tYes te vs) σ H (z.cps.toList.map g) := fun H0 e Q q => h H0 e _ fun H1 e1 => ⟨z, rfl, fun Dl hD => by
  have eg : z.cps.toList.map g = given z.cps.size (fun _ => true) (fun i => g (z.cps.getD i 0)) := by
    unfold given
    rw [filter_true]
    refine List.ext_getElem? fun i => ?_
    by_cases hi : i < z.cps.size
    · rw [List.getElem?_map, List.getElem?_map, List.getElem?_range hi, List.getElem?_eq_getElem (by simpa using hi)]
      simp [Array.getD, hi]
    · rw [List.getElem?_eq_none (by simpa using hi), List.getElem?_eq_none (by simpa using hi)]
  rw [eg] at q
  refine lc_it walk_str (Cw H1 (fun _ => true) (fun i => g (z.cps.getD i 0)) Dl) ⟨hD, Ex.new hD, upd_same⟩ (fun _ _ _ _ => trivial) (fun i v H' H'' hi p y => ?_) (fun H' p => q Dl H' (fresh_back e1 p.1) (e1.trans p.2.1) p.2.2)
  obtain ⟨rfl, c, hc, rfl⟩ := y
  refine ⟨hw _, cw_turn p (by omega) et_yes (fun _ => ?_)⟩
  have ec : z.cps.getD i 0 = c := by simp [Array.getD, Array.getElem?_eq_some_iff] at hc ⊢; obtain ⟨h1, h2⟩ := hc; simp [h1, h2]
  show Ev te _ H1 (g (z.cps.getD i 0))
  rw [ec]
  exact he c H1 (e.trans e1) (by rw [← ec]; simp [Array.getD, hi])⟩
theorem ev_allS {z : Str} {j : Nat} {vs : List Nat} (g : Nat → Bool) (h : Ev ta σ H (.str z)) (hz : z.cps.size ≤ 40000) (hw : ∀ x, wipe ((wipe σ vs).set j (some x)) vs = wipe σ vs)
    (he : ∀ (c : Nat) H1, Ex H H1 → c ∈ z.cps.toList → Ev te ((wipe σ vs).set j (some (.str ⟨#[c]⟩))) H1 (.bl (g c))) :
    Ev (tCB (rAll K) (tCons (tLc (iStr ta) (gName j) tYes te vs) tNil)) σ H (.bl (z.cps.toList.all g)) := by
  have h1 := el_lcS (fun c => V.bl (g c)) h hz hw he
  rw [← Function.comp_def V.bl g, ← List.map_map] at h1
  have h2 := ev_allN (K := K) h1
  rw [List.all_map] at h2
  exact h2
theorem ep_ut {xs : List V} (h : EvU te σ H xs) (p : ∀ a H1, Ex H H1 → H1 a = some (.tup xs) → P (.ref a) H1) : EvP te σ H P := fun H1 a Q q => h H1 a Q fun b H2 _ e h2 => q _ H2 e (p b H2 (a.trans e) h2)
theorem ev_joinN {zs : List Str} {s : Str} (hs : Ev ta σ H (.str s)) (ha : EvL tb σ H (zs.map V.str)) (hz : (zs.map (·.length)).sum + zs.length * s.length ≤ 16777216) :
    Ev (tM1 (fun x xs H Q => ∃ a p, ∃ ys : List Str, x = .str a ∧ xs = [.ref p] ∧ (SqL K H p (ys.map V.str) ∨ SqT K H p (ys.map V.str)) ∧ (ys.map (·.length)).sum + ys.length * a.length ≤ 16777216 ∧ Q (.str (Txt.join a ys)) H) ta tb) σ H (.str (Txt.join s zs)) := fun H1 e Q q =>
  hs H1 e _ fun H2 e2 => ⟨⟨s, rfl⟩, ha H2 (e.trans e2) _ fun p H3 _ e3 h3 => ⟨s, p, zs, rfl, rfl, .inl (sq_of h3), hz, q H3 (e2.trans e3)⟩⟩
theorem ev_andM {i : Int} (k : Nat) {j : Int} (hj : j = 2 ^ k - 1) (ha : Ev ta σ H (.int i)) (hb : Ev tb σ H (.int j)) : Ev (tOp (fun x y H Q => ∃ (i : Int) (k : Nat), x = .int i ∧ y = .int (2 ^ k - 1) ∧ Q (.int (i % 2 ^ k)) H) ta tb) σ H (.int (i % 2 ^ k)) := fun H1 e Q q =>
  ha H1 e _ fun H2 e2 => hb H2 (e.trans e2) _ fun H3 e3 => ⟨i, k, rfl, by rw [hj], q H3 (e2.trans e3)⟩
theorem ev_minSN {z : Str} {zs : List Str} {y : Str} (ha : EvL ta σ H ((z :: zs).map V.str)) (hy : ∀ y', PySem.W.minD (.str z) (zs.map .str) = .str y' → y' = y) : Ev (tCB (rMinS K) (tCons ta tNil)) σ H (.str y) := fun H1 e Q q =>
  ha H1 e _ fun p H2 _ e2 h2 => ⟨p, z, zs, rfl, sq_of h2, fun y' he => by rw [hy y' he]; exact q H2 e2⟩
end
end Evl
/-! a list's numbers each once, in order -/
namespace L2
open PySem PySem.Spec PyProof.Rows PySem.W
/-- the set with nothing in it -/
abbrev noS (w : World) : Obj := { cls := .type "set", dict := none, data := .set #[] 0 (.fresh 0 0 (!w.params.followText "set-order")) }
section
variable {P : Program} {w : World} {A : Around} {E : Value → Shared → Prop} {s : Shared}
theorem made_lst {l : Addr} {items : Array Value} (ns : List Int) {Q : Value → Shared → Prop} (hh : A.handled = none) (hl : s.heap.IsList l items) (hit : IntsAre items.toList ns) (few : ns.length + 1 < scanBound)
    (h : ∀ (g : Heap) (tk c : Nat), SetR w g s.heap.objs.size (fun j => decide (j ∈ ns)) c → (∀ b o, s.heap.get? b = some o → g.get? b = some o) → Q (.ref s.heap.objs.size) { s with heap := g, toks := tk }) :
    wpAny (model P w) A (call (.type "set") [.ref l]) Q E s := by
  have many : items.size = ns.length := by
    rw [← Array.length_toList]; exact IntsAre.length hit
  have ⟨_, _, hm⟩ := F.called_set.mro
  have h0 := F.called_set.made
  have h1 := F.called_set.sub
  have h2 := F.called_set.notType
  have h3 := F.called_set.canCreate
  have h4 := F.typeCall_set_1 (.ref l)
  refine wpAny_call (codeAny_of_tree ?_)
  show wpAny _ _ (callAny (.type "set") _) _ _ _
  refine wpAny_pure ⟨Code.quiet_builtin _ (by decide +kernel), codeAny_builtin F.entry_type_call ?_⟩
  rw [Around.under_plain (weight_type_call_type "set" [.ref l] []) rfl]
  repeat any_goals first | assumption | wp_step
  refine codeAny_mono (code_set_led1 (.ref l) (E := E) (Q₁ := fun u t => u = .ref s.heap.objs.size ∧ t = { s with heap := s.heap.push (noS w) }) ⟨rfl, rfl⟩) fun r t hr => ?_
  cases r with
  | error e => exact hr
  | ok fl =>
    cases fl with
    | ret u =>
      obtain ⟨rfl, rfl⟩ := hr
      have own : (s.heap.push (noS w)).get? s.heap.objs.size = some (noS w) := Heap.get?_push_size _ rfl
      have ty : Shared.TypeIs { s with heap := s.heap.push (noS w) } (.ref s.heap.objs.size) "set" := ⟨_, own, rfl⟩
      have i1 := F.called_set.init.lookup
      have i2 := F.called_set.init.bind (.ref s.heap.objs.size)
      repeat any_goals first | assumption | wp_step
      refine codeAny_mono (codeAny_call_builtin (R := wants (fun r t => r = .none ∧ ∃ g tk c, t = { s with heap := g, toks := tk } ∧ SetR w g s.heap.objs.size (fun j => decide (j ∈ ns)) c ∧ (∀ b o, s.heap.get? b = some o → g.get? b = some o)) E)
        F.called_set.init.plain F.entry_set_init (check_set_init_1 ty ?_)) fun r t hr => ?_
      · have far := hl
        obtain ⟨⟨oc, od, ox, os⟩, hol, rfl, nl, rfl⟩ := hl
        have at1 : (s.heap.push (noS w)).get? l = some { cls := .type "list", dict := od, data := .seq items nl, slots := os } := Heap.get?_push_of_some _ hol
        have n1 := F.sub_list_set
        have n2 := F.sub_list_frozenset
        have n3 : (Value.type "list" == Value.type "dict") = false := by decide
        have l1 : (s.heap.push (noS w)).IsList l items := ⟨_, at1, rfl, nl, rfl⟩
        unfold Builtin.«set.__init__» noKeywords Builtin.Frozenset.updateFrom
        generalize ePI : pyIter = PI
        wp_walk
        subst ePI
        refine wpAny_pyIter_list l1 ?_
        refine wpAny_bind (wpAny_runValue ?_)
        have low : l < s.heap.objs.size := Heap.lt_size hol
        have size1 : (s.heap.push (noS w)).objs.size = s.heap.objs.size + 1 := Heap.size_push ..
        have calm : A.in1.in1.in1.handled = none := by simp [hh]
        have away : l ≠ (s.heap.push (noS w)).objs.size := by
          rw [size1]; exact Nat.ne_of_lt (Nat.lt_succ_of_lt low)
        have apart : s.heap.objs.size ∉ [(s.heap.push (noS w)).objs.size, l] := by
          rw [size1]
          intro z
          rcases List.mem_cons.mp z with e | z
          · exact Nat.ne_of_lt (Nat.lt_succ_self _) e
          · exact Nat.ne_of_gt low (List.mem_singleton.mp z)
        have each : ∀ (i : Nat) (v : Value), items[i]? = some v → ∃ k t, ns[i]? = some k ∧ v = .int k t := fun i v hv => by
          have hi : i < ns.length := by
            have := (Array.getElem?_eq_some_iff.mp hv).1
            omega
          have ⟨t, e⟩ := IntsAre.int_at hit i v (by rw [Array.getElem?_toList]; exact hv)
          have e1 := List.getElem?_eq_getElem hi
          exact ⟨_, t, e1, by rw [e, List.getD_eq_getElem?_getD, e1]; rfl⟩
        refine set_update_ints ((Walks.list calm _ l away items).toS) s.heap.objs.size apart ns many few each (items.size - 0) 0 _ (by omega) (Nat.zero_le _) ⟨⟨_, Heap.get?_push_size _ rfl, rfl, rfl⟩, l1.push _⟩ ?_ ?_
        · exact ⟨0, Nat.le_refl 0, setR_new_at (Heap.get?_push_of_some _ own)⟩
        · intro t c hm _ new
          obtain ⟨g, gs, dr, tk, os⟩ := t
          have eg : gs = s.gens := hm.gens
          have ed : dr = s.drawn := hm.drawn
          have eo : os = s.os := hm.os
          subst eg ed eo
          show wpAny _ _ _ _ _ _
          refine wpAny_pure ?_
          show wpAny _ _ (ret Value.none) _ _ _
          refine wpAny_pure ⟨rfl, g, tk, c, rfl, new, fun b o e => ?_⟩
          have hb : b < s.heap.objs.size := Heap.lt_size e
          refine hm.heap b o (fun z => ?_) (Heap.get?_push_of_some _ (Heap.get?_push_of_some _ e))
          rcases List.mem_cons.mp z with e | z
          · exact Nat.ne_of_lt hb e
          · exact Nat.ne_of_lt (Nat.lt_succ_of_lt hb) ((List.mem_singleton.mp z).trans size1)
      · cases r with
        | error e => exact hr
        | ok fl =>
          cases fl with
          | ret r =>
            obtain ⟨rfl, g, tk, c, rfl, new, kept⟩ := hr
            repeat any_goals first | assumption | wp_step
            exact h _ _ _ new kept
          | _ => exact hr.elim
    | _ => exact hr.elim
end
/-- set(xs) of a list of numbers -/
def rSetNs (K : PySem.W.Frag) (w : World) : List V → Hp → VK → Prop := fun vs H Q => ∃ (a : Addr) (ns : List Int), vs = [V.ref a] ∧ SqL K H a (ns.map V.int) ∧ ns.length + 1 < scanBound ∧
  ∀ p c, H p = none → (∀ m : Nat, (∀ l : List Int, l.Nodup → (∀ k ∈ l, k ∈ ns) → l.length ≤ m) → c ≤ m) → Q (.ref p) (upd H p (SetO w p (fun j => decide (j ∈ ns)) c))
theorem setR_few {w : World} {h : Heap} {a : Addr} {ns : List Int} {c : Nat} (R : SetR w h a (fun j => decide (j ∈ ns)) c) (m : Nat) (hm : ∀ l : List Int, l.Nodup → (∀ k ∈ l, k ∈ ns) → l.length ≤ m) : c ≤ m := by
  obtain ⟨o, es, ep, t, ho, hx, hd, g, nd, hin, hb, hf, hn, _⟩ := R
  have := hm _ nd (fun k hk => by simpa using (hin k).2 hk)
  rw [List.length_map, Array.length_toList] at this
  omega
theorem cr_setNs {X : Cx} (hc : X.calm = true) : CallR X (.type "set") (rSetNs X.K X.w) := by
  intro pins s σ H vs us Q I r h
  obtain ⟨a, ns, rfl, hs, few, q⟩ := h
  obtain ⟨its, rv, hl, _⟩ := I.list hs
  rw [Vals.ref1 r]
  refine made_lst ns (I.ok.hd hc) hl.isList (by simpa using ints_of_vals rv) few fun g tk c R k => ?_
  exact ⟨.ref _, upd H s.heap.objs.size (SetO X.w s.heap.objs.size (fun j => decide (j ∈ ns)) c), I.laid (t' := tk) k (Nat.le_refl _) (setO_new R), rfl, q _ c (I.hok.fresh (Nat.le_refl _)) (setR_few R)⟩
end L2
/-! the heaps that a turn makes into these -/
namespace Ch
def nth (ns : List Nat) (i : Nat) : Nat := ns[i]?.getD 0
def aok (ns : List Nat) (i : Nat) : Bool := decide (ns.length - 1 ≤ nth ns i) && (decide (i = 0) || decide (nth ns (i - 1) ≠ nth ns i))
def aon (ns : List Nat) (i : Nat) : List Nat := (ns.eraseIdx i).map (· + 1) ++ List.replicate (nth ns i - (ns.length - 1)) 1
def ahF (ns : List Nat) (k : Nat) : List (List Nat) := ((List.range k).filter (aok ns)).map (aon ns)
def ahd (ns : List Nat) : List (List Nat) := if ns = [] then [[]] else ahF ns ns.length
theorem nth_eq {ns : List Nat} {i : Nat} (h : i < ns.length) : nth ns i = ns[i] := by
  unfold nth; rw [List.getElem?_eq_getElem h]; rfl
theorem nth_mem {ns : List Nat} {i : Nat} (h : i < ns.length) : nth ns i ∈ ns := by rw [nth_eq h]; exact List.getElem_mem h
theorem ahF_succ (ns : List Nat) (k : Nat) : ahF ns (k + 1) = if aok ns k then ahF ns k ++ [aon ns k] else ahF ns k := by
  unfold ahF
  rw [List.range_succ, List.filter_append, List.map_append]
  by_cases h : aok ns k = true
  · rw [if_pos h]; simp [h]
  · rw [if_neg h]; simp [h]
theorem er_len {ns : List Nat} {i : Nat} (h : i < ns.length) : (ns.eraseIdx i).length = ns.length - 1 := List.length_eraseIdx_of_lt h
theorem er_perm {ns : List Nat} {i : Nat} (h : i < ns.length) : (nth ns i :: ns.eraseIdx i).Perm ns := by
  have key : ∀ (l : List Nat) (i : Nat), i < l.length → (nth l i :: l.eraseIdx i).Perm l := fun l => by
    induction l with
    | nil => intro i h; cases h
    | cons a r ih =>
      intro i h
      cases i with
      | zero => exact .refl _
      | succ i => exact (List.Perm.swap _ _ _).trans ((ih i (by simpa using h)).cons a)
  exact key ns i h
theorem aon_len {ns : List Nat} {i : Nat} (h : i < ns.length) (ok : aok ns i = true) : (aon ns i).length = nth ns i := by
  have h1 : ns.length - 1 ≤ nth ns i := by
    unfold aok at ok
    rw [Bool.and_eq_true] at ok
    exact of_decide_eq_true ok.1
  unfold aon
  rw [List.length_append, List.length_map, List.length_replicate, er_len h]
  omega
theorem sum_up : ∀ l : List Nat, (l.map (· + 1)).sum = l.sum + l.length
  | [] => rfl
  | a :: r => by simp [sum_up r]; omega
theorem aon_sum {ns : List Nat} {i : Nat} (h : i < ns.length) (ok : aok ns i = true) : (aon ns i).sum = ns.sum := by
  have h1 : ns.length - 1 ≤ nth ns i := by
    unfold aok at ok
    rw [Bool.and_eq_true] at ok
    exact of_decide_eq_true ok.1
  have h2 := (er_perm h).sum_nat
  rw [List.sum_cons] at h2
  unfold aon
  rw [List.sum_append, sum_up, List.sum_replicate_nat, er_len h]
  simp
  omega
theorem aon_hs {ns : List Nat} {i : Nat} (hs : Hs ns) (h : i < ns.length) (ok : aok ns i = true) : Hs (aon ns i) := by
  refine ⟨fun n hn => ?_, ?_, by rw [aon_sum h ok]; exact hs.sm⟩
  · unfold aon at hn
    rcases List.mem_append.mp hn with hn | hn
    · obtain ⟨m, _, rfl⟩ := List.mem_map.mp hn
      omega
    · rw [List.eq_of_mem_replicate hn]; decide
  · unfold aon
    refine List.pairwise_append.mpr ⟨?_, ?_, fun a ha b hb => ?_⟩
    · exact (hs.srt.sublist (List.eraseIdx_sublist ns i)).map _ fun a b (q : a ≥ b) => show a + 1 ≥ b + 1 by omega
    · exact List.pairwise_replicate.mpr (.inr (Nat.le_refl 1))
    · obtain ⟨m, _, rfl⟩ := List.mem_map.mp ha
      rw [List.eq_of_mem_replicate hb]
      show m + 1 ≥ 1
      omega
theorem left_append (a b : List Nat) : left (a ++ b) = left a ++ left b := by simp [left]
theorem left_up : ∀ {l : List Nat}, (∀ n ∈ l, 0 < n) → left (l.map (· + 1)) = l
  | [], _ => rfl
  | a :: r, h => by
    have h0 := h a (by simp)
    have ih := left_up fun n hn => h n (List.mem_cons_of_mem _ hn)
    unfold left at ih ⊢
    rw [List.map_cons, List.filter_cons, if_pos (by simpa using h0), List.map_cons, ih]
    rfl
theorem left_ones : ∀ n : Nat, left (List.replicate n 1) = []
  | 0 => rfl
  | n + 1 => by
    have ih := left_ones n
    unfold left at ih ⊢
    rw [List.replicate_succ, List.filter_cons, if_neg (by decide), ih]
theorem down_nat {a b : List Nat} (hp : a.Perm b) (ha : a.Pairwise (· ≥ ·)) (hb : b.Pairwise (· ≥ ·)) : a = b := cl_inj (down_one (cl_perm hp) (cl_srt ha) (cl_srt hb))
theorem aon_turn {ns : List Nat} {i : Nat} (hs : Hs ns) (h : i < ns.length) (ok : aok ns i = true) : turn (aon ns i) = ns := by
  have hl := aon_len h ok
  have h0 := hs.pos _ (nth_mem h)
  have hne : aon ns i ≠ [] := fun e => by rw [e] at hl; simp at hl; omega
  have e : left (aon ns i) = ns.eraseIdx i := by
    unfold aon
    rw [left_append, left_up (fun n hn => hs.pos n (List.mem_of_mem_eraseIdx hn)), left_ones, List.append_nil]
  refine down_nat ?_ (turn_srt (aon_hs hs h ok).srt) hs.srt
  refine (turn_perm hne).trans ?_
  rw [e, hl]
  exact (List.perm_append_comm).trans (er_perm h)
theorem ahd_in {ns ms : List Nat} (hs : Hs ns) (h : ms ∈ ahd ns) : Hs ms ∧ turn ms = ns := by
  unfold ahd at h
  by_cases e : ns = []
  · rw [if_pos e] at h
    rw [List.mem_singleton] at h
    subst h e
    exact ⟨Hs.nil, rfl⟩
  · rw [if_neg e] at h
    unfold ahF at h
    obtain ⟨i, hi, rfl⟩ := List.mem_map.mp h
    obtain ⟨h1, h2⟩ := List.mem_filter.mp hi
    rw [List.mem_range] at h1
    exact ⟨aon_hs hs h1 h2, aon_turn hs h1 h2⟩
theorem nth_anti {ns : List Nat} (hs : Hs ns) {i j : Nat} (hij : i ≤ j) (hj : j < ns.length) : nth ns j ≤ nth ns i := by
  rw [nth_eq hj, nth_eq (by omega)]
  rcases Nat.lt_or_ge i j with h | h
  · exact List.pairwise_iff_getElem.mp hs.srt i j (by omega) hj h
  · have : i = j := by omega
    subst this
    exact Nat.le_refl _
theorem aok_less {ns : List Nat} (hs : Hs ns) {i j : Nat} (hij : i < j) (hj : j < ns.length) (ok : aok ns j = true) : nth ns j < nth ns i := by
  unfold aok at ok
  simp only [Bool.and_eq_true, Bool.or_eq_true, decide_eq_true_eq] at ok
  have h1 := nth_anti hs (i := i) (j := j - 1) (by omega) (by omega)
  have h2 := nth_anti hs (i := j - 1) (j := j) (by omega) hj
  rcases ok.2 with h | h
  · omega
  · omega
/-- the counts of cards that lead there -/
def aval (ns : List Nat) : List Nat := ((List.range ns.length).filter (aok ns)).map (nth ns)
theorem aval_pw {ns : List Nat} (hs : Hs ns) : (aval ns).Pairwise (· > ·) := by
  unfold aval
  refine List.pairwise_map.mpr ?_
  have h : ((List.range ns.length).filter (aok ns)).Pairwise fun i j => i < j ∧ j < ns.length ∧ aok ns j = true := by
    refine List.Pairwise.imp_of_mem ?_ (List.Pairwise.filter _ List.pairwise_lt_range)
    intro a b ha hb hab
    obtain ⟨h1, h2⟩ := List.mem_filter.mp hb
    exact ⟨hab, List.mem_range.mp h1, h2⟩
  exact h.imp fun ⟨h1, h2, h3⟩ => aok_less hs h1 h2 h3
theorem aval_mem {ns : List Nat} (hs : Hs ns) (c : Nat) : c ∈ aval ns ↔ c ∈ ns ∧ ns.length - 1 ≤ c := by
  unfold aval
  constructor
  · intro h
    obtain ⟨i, hi, rfl⟩ := List.mem_map.mp h
    obtain ⟨h1, h2⟩ := List.mem_filter.mp hi
    rw [List.mem_range] at h1
    refine ⟨nth_mem h1, ?_⟩
    unfold aok at h2
    rw [Bool.and_eq_true] at h2
    exact of_decide_eq_true h2.1
  · intro ⟨h1, h2⟩
    -- the first place
    have key : ∀ k, k < ns.length → nth ns k = c → ∃ i, i < ns.length ∧ nth ns i = c ∧ (i = 0 ∨ nth ns (i - 1) ≠ c) := fun k => by
      induction k with
      | zero => exact fun h e => ⟨0, h, e, .inl rfl⟩
      | succ k ih =>
        intro h e
        by_cases q : nth ns k = c
        · exact ih (by omega) q
        · exact ⟨k + 1, h, e, .inr q⟩
    obtain ⟨k, hk, e⟩ := List.getElem_of_mem h1
    obtain ⟨i, hi, e, q⟩ := key k hk (by rw [nth_eq hk]; exact e)
    refine List.mem_map.mpr ⟨i, List.mem_filter.mpr ⟨List.mem_range.mpr hi, ?_⟩, e⟩
    unfold aok
    rw [e]
    simp only [Bool.and_eq_true, Bool.or_eq_true, decide_eq_true_eq]
    exact ⟨h2, q⟩
theorem ahF_len (ns : List Nat) : (ahF ns ns.length).length = (aval ns).length := by unfold ahF aval; rw [List.length_map, List.length_map]
/-- as many as unlike heaps no fewer cards than others -/
theorem ahF_many {ns : List Nat} (hs : Hs ns) {zs : List Int} (hz : zs.Pairwise (· < ·)) (hm : ∀ k : Int, k ∈ zs ↔ k ∈ cl ns) : ((zs.filter fun z => decide ((ns.length : Int) - 1 ≤ z)).length) = (ahF ns ns.length).length := by
  rw [ahF_len, ← cl_len (aval ns)]
  refine List.Perm.length_eq ((List.perm_ext_iff_of_nodup ?_ ?_).mpr fun k => ?_)
  · exact (hz.filter _).imp fun h => Int.ne_of_lt h
  · unfold cl
    exact List.pairwise_map.mpr (List.Pairwise.imp (R := fun a b : Nat => a > b) (fun {a b} (h : a > b) (z : (a : Int) = (b : Int)) => by omega) (aval_pw hs))
  · rw [List.mem_filter, hm, decide_eq_true_eq]
    constructor
    · intro ⟨h1, h2⟩
      obtain ⟨n, hn, rfl⟩ := cl_mem h1
      exact List.mem_map_of_mem ((aval_mem hs n).mpr ⟨hn, by omega⟩)
    · intro h
      obtain ⟨n, hn, rfl⟩ := cl_mem h
      obtain ⟨h1, h2⟩ := (aval_mem hs n).mp hn
      exact ⟨List.mem_map_of_mem h1, by omega⟩
theorem lens_unlike {ns : List Nat} (hs : Hs ns) {i j : Nat} {x y : List Nat} (hij : i < j) (hx : (ahF ns ns.length)[i]? = some x) (hy : (ahF ns ns.length)[j]? = some y) : x ≠ y := by
  have e : (ahF ns ns.length).map List.length = aval ns := by
    unfold ahF aval
    rw [List.map_map]
    refine List.map_congr_left fun k hk => ?_
    obtain ⟨h1, h2⟩ := List.mem_filter.mp hk
    exact aon_len (List.mem_range.mp h1) h2
  have p := aval_pw hs
  rw [← e, List.pairwise_map] at p
  obtain ⟨h1, e1⟩ := List.getElem?_eq_some_iff.mp hx
  obtain ⟨h2, e2⟩ := List.getElem?_eq_some_iff.mp hy
  have := List.pairwise_iff_getElem.mp p i j h1 h2 hij
  rw [e1, e2] at this
  intro z
  rw [z] at this
  exact Nat.lt_irrefl _ this
theorem ahd_unlike {ns : List Nat} (hs : Hs ns) {i j : Nat} {x y : List Nat} (hij : i < j) (hx : (ahd ns)[i]? = some x) (hy : (ahd ns)[j]? = some y) : x ≠ y := by
  unfold ahd at hx hy
  by_cases e : ns = []
  · rw [if_pos e] at hy
    cases j with
    | zero => omega
    | succ j => simp at hy
  · rw [if_neg e] at hx hy
    exact lens_unlike hs hij hx hy
theorem up_sum : ∀ (l : List Int) (b : Int), 0 ≤ b → l.Pairwise (· < ·) → (∀ k ∈ l, b < k) → 2 * (l.length : Int) * b + (l.length : Int) * (l.length + 1) ≤ 2 * l.sum
  | [], b, _, _, _ => by simp
  | x :: r, b, hb, h, g => by
    obtain ⟨h1, h2⟩ := List.pairwise_cons.mp h
    have hx := g x (by simp)
    have ih := up_sum r x (by omega) h2 h1
    rw [List.sum_cons, List.length_cons, Int.natCast_add]
    show 2 * ((r.length : Int) + 1) * b + ((r.length : Int) + 1) * ((r.length : Int) + 1 + 1) ≤ _
    have q : 2 * (r.length : Int) * (b + 1) ≤ 2 * (r.length : Int) * x := Int.mul_le_mul_of_nonneg_left (by omega) (by omega)
    rw [Int.mul_add] at q
    generalize (r.length : Int) = n at *
    have e1 : ((n + 1 : Int)) * (n + 1 + 1) = n * (n + 1) + 2 * n + 2 := by
      rw [Int.mul_add, Int.mul_add, Int.add_mul]; simp [Int.mul_comm, Int.mul_add, Int.add_mul]; omega
    have e2 : 2 * (n + 1) * b = 2 * n * b + 2 * b := by simp [Int.mul_add, Int.add_mul]
    rw [e1, e2]
    omega
theorem sub_sum : ∀ (l ns : List Int), l.Nodup → (∀ k ∈ l, k ∈ ns) → (∀ k ∈ ns, 0 ≤ k) → l.sum ≤ ns.sum
  | [], ns, _, _, p => by
    induction ns with
    | nil => simp
    | cons a r ih =>
      have h1 := p a (by simp)
      have h2 := ih (fun k hk => by cases hk) (fun k hk => p k (List.mem_cons_of_mem _ hk))
      rw [List.sum_cons]
      simp only [List.sum_nil] at h2 ⊢
      omega
  | x :: r, ns, d, h, p => by
    obtain ⟨d1, d2⟩ := List.nodup_cons.mp d
    have hx := h x (by simp)
    have hp := List.perm_cons_erase hx
    have ih := sub_sum r (ns.erase x) d2 (fun k hk => by
      have := h k (List.mem_cons_of_mem _ hk)
      exact (List.mem_erase_of_ne (fun z => d1 (by rw [← z]; exact hk))).mpr this) (fun k hk => p k (List.mem_of_mem_erase hk))
    have e : ns.sum = x + (ns.erase x).sum := by
      have : ∀ {a b : List Int}, a.Perm b → a.sum = b.sum := fun q => by
        induction q with
        | nil => rfl
        | cons z _ ih => simp [ih]
        | swap a b l => simp; omega
        | trans _ _ i1 i2 => exact i1.trans i2
      rw [this hp, List.sum_cons]
    rw [List.sum_cons, e]
    omega
theorem few_vals {ns : List Nat} (hs : Hs ns) (l : List Int) (d : l.Nodup) (h : ∀ k ∈ l, k ∈ cl ns) : l.length ≤ 27 := by
  have pm := List.mergeSort_perm l (fun a b => decide (a ≤ b))
  have ps : (l.mergeSort fun a b => decide (a ≤ b)).Pairwise (· < ·) := by
    have h1 := List.pairwise_mergeSort (le := fun a b : Int => decide (a ≤ b)) (fun a b c h1 h2 => by simp at *; omega) (fun a b => by simp; omega) l
    have h2 : (l.mergeSort fun a b => decide (a ≤ b)).Nodup := pm.symm.nodup d
    refine (List.pairwise_and_iff.mpr ⟨h1, h2⟩).imp fun {a b} ⟨q1, q2⟩ => ?_
    have := of_decide_eq_true q1
    have : a ≠ b := q2
    omega
  have e := up_sum _ 0 (by omega) ps fun k hk => by
    obtain ⟨n, hn, rfl⟩ := cl_mem (h k (pm.mem_iff.mp hk))
    have := hs.pos n hn
    omega
  have s1 := sub_sum (l.mergeSort fun a b => decide (a ≤ b)) (cl ns) (pm.symm.nodup d) (fun k hk => h k (pm.mem_iff.mp hk)) fun k hk => by
    obtain ⟨n, hn, rfl⟩ := cl_mem hk
    omega
  rw [cl_sum] at s1
  have := hs.sm
  rw [pm.length_eq] at e
  rcases Nat.lt_or_ge 27 l.length with q | q
  · have h2 : (28 : Int) * 29 ≤ (l.length : Int) * (l.length + 1) := Int.mul_le_mul (by omega) (by omega) (by omega) (by omega)
    omega
  · exact q
/-- a list's numbers each once, rising -/
theorem rising (ns : List Int) : ∃ zs : List Int, zs.Pairwise (· < ·) ∧ ∀ k, k ∈ zs ↔ k ∈ ns := by
  induction ns with
  | nil => exact ⟨[], List.Pairwise.nil, fun k => Iff.rfl⟩
  | cons a r ih =>
    obtain ⟨zs, h1, h2⟩ := ih
    by_cases ha : a ∈ zs
    · refine ⟨zs, h1, fun k => ?_⟩
      rw [List.mem_cons, h2]
      refine ⟨.inr, fun h => ?_⟩
      rcases h with rfl | h
      · exact (h2 k).mp ha
      · exact h
    · have nd : (a :: zs).Nodup := List.nodup_cons.mpr ⟨ha, h1.imp fun h => Int.ne_of_lt h⟩
      have pm := List.mergeSort_perm (a :: zs) (fun a b => decide (a ≤ b))
      refine ⟨(a :: zs).mergeSort fun a b => decide (a ≤ b), ?_, fun k => ?_⟩
      · have q1 := List.pairwise_mergeSort (le := fun a b : Int => decide (a ≤ b)) (fun a b c h1 h2 => by simp at *; omega) (fun a b => by simp; omega) (a :: zs)
        refine (List.pairwise_and_iff.mpr ⟨q1, pm.symm.nodup nd⟩).imp fun {a b} ⟨q1, q2⟩ => ?_
        have := of_decide_eq_true q1
        have : a ≠ b := q2
        omega
      · rw [pm.mem_iff, List.mem_cons, List.mem_cons, h2]
theorem rising_one {a b : List Int} (ha : a.Pairwise (· < ·)) (hb : b.Pairwise (· < ·)) (h : ∀ k, k ∈ a ↔ k ∈ b) : a = b := by
  have pm : a.Perm b := (List.perm_ext_iff_of_nodup (ha.imp fun h => Int.ne_of_lt h) (hb.imp fun h => Int.ne_of_lt h)).mpr h
  exact List.Perm.eq_of_pairwise (le := (· < ·)) (fun x y _ _ h1 h2 => by omega) ha hb pm
/-- all heaps of so many cards, none of more than b -/
def alls : Nat → Nat → Nat → List (List Nat)
  | 0, _, _ => []
  | f + 1, n, b => if n = 0 then [[]] else (List.range (min n b)).flatMap fun i => (alls f (n - (i + 1)) (i + 1)).map fun r => (i + 1) :: r
theorem rows_one {a b : List (List Int)} (h : a.Perm b) : (a.mergeSort fun x y => decide (x ≤ y)) = b.mergeSort fun x y => decide (x ≤ y) := by
  have tr : ∀ x y z : List Int, decide (x ≤ y) = true → decide (y ≤ z) = true → decide (x ≤ z) = true := fun x y z h1 h2 => decide_eq_true (List.le_trans (of_decide_eq_true h1) (of_decide_eq_true h2))
  have tot : ∀ x y : List Int, (decide (x ≤ y) || decide (y ≤ x)) = true := fun x y => by
    rw [Bool.or_eq_true, decide_eq_true_eq, decide_eq_true_eq]
    exact List.le_total x y
  refine List.Perm.eq_of_pairwise (le := fun x y => decide (x ≤ y) = true) (fun x y _ _ h1 h2 => ?_) (List.pairwise_mergeSort tr tot a) (List.pairwise_mergeSort tr tot b) ((List.mergeSort_perm a _).trans (h.trans (List.mergeSort_perm b _).symm))
  exact Std.le_antisymm (of_decide_eq_true h1) (of_decide_eq_true h2)
theorem all_perm : ∀ N, N < 8 → ∀ h ∈ alls 9 N 8, ((ahd h).map cl).isPerm (((alls 9 N 8).filter fun s => decide (cl (turn s) = cl h)).map cl) = true := by decide +kernel
theorem all_right {N : Nat} (hN : N < 8) {h : List Nat} (hh : h ∈ alls 9 N 8) : (((ahd h).map cl).mergeSort fun x y => decide (x ≤ y)) = (((alls 9 N 8).filter fun s => decide (cl (turn s) = cl h)).map cl).mergeSort fun x y => decide (x ≤ y) :=
  rows_one (List.isPerm_iff.mp (all_perm N hN h hh))
theorem all_hs : ∀ N, N < 8 → ∀ h ∈ alls 9 N 8, (∀ n ∈ h, 0 < n) ∧ h.Pairwise (· ≥ ·) ∧ h.sum ≤ 400 := by decide +kernel
end Ch
/-! rows that are new, sets in order -/
namespace Evl
open PySem L2 Ch
section
variable {K : PySem.W.Frag} {w : World} {σ : L2.St} {H H' : Hp} {ta tb tc te tl : TE} {t : TT} {x y v : V} {P P' : V → Hp → Prop} {Ps Rs : List (V → Hp → Prop)} {E : XK}
/-- sorted(set(xs)) -/
theorem el_sortSet {a : Addr} {ns zs : List Int} (ha : Ev ta σ H (.ref a)) (hs : SqL K H a (ns.map V.int)) (few : ns.length ≤ 1000) (cnt : ∀ l : List Int, l.Nodup → (∀ k ∈ l, k ∈ ns) → l.length ≤ 60)
    (hz : ∀ zs' : List Int, zs'.Pairwise (· < ·) → (∀ k, k ∈ zs' ↔ k ∈ ns) → zs' = zs) : EvL (tCB (rSortedSet w) (tCons (tCB (rSetNs K w) (tCons ta tNil)) tNil)) σ H (zs.map V.int) := fun H1 e Q q =>
  ha H1 e _ fun H2 e2 => ⟨a, ns, rfl, ex_l (e.trans e2) hs, by unfold PySem.scanBound; omega, fun p c hp hc => by
    refine ⟨p, _, c, rfl, upd_same, Nat.lt_of_le_of_lt (hc 60 cnt) (by decide), fun ms p2 h1 h2 h3 hp2 => ?_⟩
    have em := hz ms h1 fun k => (h2 k).trans decide_eq_true_iff
    subst em
    refine q p2 _ ?_ ?_ upd_same
    · exact fresh_back (e2.trans (Ex.new hp)) hp2
    · exact (e2.trans (Ex.new hp)).trans (Ex.new hp2)⟩
/-- is it in the list -/
theorem ev_inD {d : PyData} {ds : List PyData} (ha : EvP ta σ H (IsD K d)) (hb : EvP tb σ H (IsD K (.list ds))) (sd : SeqAt.shaped d = true) (se : SeqAt.shaped (.list ds) = true) : Ev (tOp (rInD K) ta tb) σ H (.bl (ds.any fun z => PyData.eqv z d)) := fun H1 a Q q =>
  ha H1 a _ fun v H2 e2 p1 => hb H2 (a.trans e2) _ fun u H3 e3 p2 => ⟨d, ds, dp_mono e3 d v p1, p2, sd, se, q H3 (e2.trans e3)⟩
/-- a display of one new list -/
theorem ep_lst1N {xs : List V} (h : EvL te σ H xs) : EvP (tLst (tCons te tNil)) σ H (fun v H' => ∃ p r, v = .ref p ∧ H p = none ∧ r ≠ p ∧ H r = none ∧ H' p = some (.lst [.ref r]) ∧ H' r = some (.lst xs)) := fun H1 e Q q =>
  h H1 e _ fun r H2 hr e2 h2 => ⟨sz_of (show (1 : Nat) ≤ 100000 by decide), fun p hp => q _ _ (e2.trans (Ex.new hp)) ⟨p, r, rfl, fresh_back (e.trans e2) hp, ne_of_none h2 hp, fresh_back e hr, upd_same, by rw [upd_ne (ne_of_none h2 hp)]; exact h2⟩⟩
/-- the rows of a list, new since H0, none of them the list -/
def isNX (H0 : Hp) (p : Addr) (ns : List Nat) : V → Hp → Prop := fun v H => ∃ r, v = .ref r ∧ r ≠ p ∧ H0 r = none ∧ H r = some (.lst (LI ns))
theorem mo_nx {H0 : Hp} {p : Addr} {ns : List Nat} : Mo (isNX H0 p ns) := fun _ _ _ e ⟨a, h1, h0, h3, h2⟩ => ⟨a, h1, h0, h3, e a _ h2⟩
def isAhd (H0 : Hp) (hss : List (List Nat)) : V → Hp → Prop := fun v H => ∃ p xs, v = .ref p ∧ H0 p = none ∧ H p = some (.lst xs) ∧ AllP H (hss.map (isNX H0 p)) xs
theorem mo_mapX {H0 : Hp} {p : Addr} {hss : List (List Nat)} : ∀ P ∈ hss.map (isNX H0 p), Mo P := fun P hP => by
  obtain ⟨ns, _, rfl⟩ := List.mem_map.mp hP
  exact mo_nx
theorem mo_ahd {H0 : Hp} {hss : List (List Nat)} : Mo (isAhd H0 hss) := fun _ _ _ e ⟨p, xs, h1, h2, h3, h4⟩ => ⟨p, xs, h1, h2, e p _ h3, h4.mono mo_mapX e⟩
theorem isAhd.back {H0 H1 : Hp} {hss : List (List Nat)} {v : V} {H : Hp} (e : Ex H0 H1) (h : isAhd H1 hss v H) : isAhd H0 hss v H := let ⟨p, xs, h1, h2, h3, h4⟩ := h; ⟨p, xs, h1, fresh_back e h2, h3, allP_imp (fun _ _ ⟨a, q1, q2, q0, q3⟩ => ⟨a, q1, q2, fresh_back e q0, q3⟩) h4⟩
/-- rows stay where only the list changes -/
theorem rows_upd {H0 : Hp} {p : Addr} {o : HO} {hss : List (List Nat)} {xs : List V} (h : AllP H (hss.map (isNX H0 p)) xs) : AllP (upd H p o) (hss.map (isNX H0 p)) xs := by
  have key : ∀ {Ps : List (V → Hp → Prop)} {xs : List V}, (∀ P ∈ Ps, ∀ v, P v H → P v (upd H p o)) → AllP H Ps xs → AllP (upd H p o) Ps xs := fun {Ps xs} f h => by
    induction h with
    | nil => exact .nil
    | cons a _ ih => exact .cons (f _ List.mem_cons_self _ a) (ih fun P hP => f P (List.mem_cons_of_mem _ hP))
  refine key (fun P hP v hv => ?_) h
  obtain ⟨ns, _, rfl⟩ := List.mem_map.mp hP
  obtain ⟨r, h1, h2, h3, h4⟩ := hv
  exact ⟨r, h1, h2, h3, by rw [upd_ne h2]; exact h4⟩
/-- rows of ints as data -/
def dR (rows : List (List Int)) : PyData := .list (rows.map dI)
theorem dpR {a : Addr} {xs : List V} {rows : List (List Int)} (h : SqL K H a xs) (hr : PySem.W.EachIs (fun x (row : List Int) => Dp K H x (dI row)) xs rows) : Dp K H (.ref a) (dR rows) := by
  refine .lst h ?_
  clear h
  induction hr with
  | nil => exact .nil
  | cons a _ ih => exact .cons a ih
theorem depthAll_rows : ∀ rows : List (List Int), PyData.depthAll (rows.map dI) ≤ 3
  | [] => by simp [PyData.depthAll]
  | n :: r => by
    have h1 := depthAll_rows r
    have h2 := depthAll_int n
    simp only [List.map_cons, PyData.depthAll, PyData.depth, dI]
    omega
theorem canAll_rows : ∀ rows : List (List Int), PyData.canLayAll0 (rows.map dI) = true
  | [] => by simp [PyData.canLayAll0]
  | n :: r => by simp only [List.map_cons, PyData.canLayAll0, PyData.canLay0, dI, canAll_int n, canAll_rows r, Bool.and_self]
theorem shRw (rows : List (List Int)) : SeqAt.shaped (dR rows) = true := by
  unfold SeqAt.shaped dR
  have h1 := depthAll_rows rows
  simp only [PyData.canLay0, canAll_rows, PyData.depth, Bool.true_and]
  exact decide_eq_true (by omega)
theorem eqvAll_rows : ∀ a b : List (List Int), PyData.eqvAll (a.map dI) (b.map dI) = decide (a = b)
  | [], [] => by simp [PyData.eqvAll]
  | [], b :: s => by simp [PyData.eqvAll]
  | a :: r, [] => by simp [PyData.eqvAll]
  | a :: r, b :: s => by
    simp only [List.map_cons, PyData.eqvAll, eqvI, eqvAll_rows r s]
    rw [Bool.eq_iff_iff]
    simp
theorem eqvR (a b : List (List Int)) : PyData.eqv (dR a) (dR b) = decide (a = b) := by
  unfold dR
  simp only [PyData.eqv, eqvAll_rows]
theorem ev_neR {a b : List (List Int)} (ha : EvP ta σ H (IsD K (dR a))) (hb : EvP tb σ H (IsD K (dR b))) : Ev (tOp (rNeD K) ta tb) σ H (.bl (!decide (a = b))) := by
  have h := ev_neD ha hb (shRw a) (shRw b)
  rw [eqvR] at h
  exact h
theorem ev_eqR {a b : List (List Int)} (ha : EvP ta σ H (IsD K (dR a))) (hb : EvP tb σ H (IsD K (dR b))) : Ev (tOp (rEqD K) ta tb) σ H (.bl (decide (a = b))) := by
  have h := ev_eqD ha hb (shRw a) (shRw b)
  rw [eqvR] at h
  exact h
/-- some row in rows -/
theorem ev_inR {a : List Int} {rows : List (List Int)} (ha : IL K ta σ H a) (hb : EvP tb σ H (IsD K (dR rows))) : Ev (tOp (rInD K) ta tb) σ H (.bl (decide (a ∈ rows))) := by
  have h := ev_inD ha hb (shI a) (shRw rows)
  have e : ((rows.map dI).any fun z => PyData.eqv z (dI a)) = decide (a ∈ rows) := by
    rw [Bool.eq_iff_iff, List.any_eq_true, decide_eq_true_iff]
    constructor
    · rintro ⟨z, hz, q⟩
      obtain ⟨r, hr, rfl⟩ := List.mem_map.mp hz
      rw [eqvI] at q
      rw [← of_decide_eq_true q]
      exact hr
    · intro h
      exact ⟨dI a, List.mem_map_of_mem h, by rw [eqvI]; exact decide_eq_true rfl⟩
  rw [e] at h
  exact h
theorem each_rows {hss : List (List Nat)} {xs : List V} {f : List Nat → V → Hp → Prop} (hf : ∀ ns v, f ns v H → ∃ r, v = .ref r ∧ H r = some (.lst (LI ns))) (h : AllP H (hss.map f) xs) : PySem.W.EachIs (fun x (row : List Int) => Dp K H x (dI row)) xs (hss.map cl) := by
  induction hss generalizing xs with
  | nil => cases h; exact .nil
  | cons a r ih =>
    cases h with
    | cons p q =>
      obtain ⟨b, rfl, hb⟩ := hf _ _ p
      exact .cons (dpI (sq_of hb)) (ih q)
/-- sorted(rows) -/
theorem ep_sortRows {rows : List (List Int)} (h : EvP ta σ H (fun v H' => ∃ a xs, v = .ref a ∧ SqL K H' a xs ∧ PySem.W.EachIs (fun x (row : List Int) => Dp K H' x (dI row)) xs rows)) : EvP (tCB (rSortRows K) (tCons ta tNil)) σ H (IsD K (dR (rows.mergeSort fun x y => decide (x ≤ y)))) := fun H1 e Q q =>
  h H1 e _ fun v H2 e2 ⟨a, xs, ev, hs, hE⟩ => by
    subst ev
    refine ⟨a, xs, rows, rfl, hs, hE, fun ys p hY hp => q _ _ (e2.trans (Ex.new hp)) ?_⟩
    refine dpR (sq_of upd_same) (hY.mono fun y row hd => ?_)
    exact dp_mono (Ex.new hp) _ _ hd
/-- if t: x = e -/
theorem q_ifSet {b : Bool} {i : Nat} {tz : TS} {D : Ends} (ht : EvT t σ H b) (Pj : L2.St → Hp → Prop) (h1 : b = true → ∀ H1, Ex H H1 → ∃ v, Ev te σ H1 v ∧ ∀ H2, Ex H1 H2 → Pj (σ.set i (some v)) H2) (h2 : b = false → ∀ H1, Ex H H1 → Pj σ H1) (h3 : ∀ σ' H', Pj σ' H' → tz D σ' H') : tSeq (tIfS t (tAsg te (gName i)) tNext) tz D σ H :=
  q_when ht (fun hb H1 e => by
    obtain ⟨v, hv, k⟩ := h1 hb H1 e
    exact s_asg hv fun H2 e2 => h3 _ _ (k H2 e2)) (fun hb H1 e => h3 _ _ (h2 hb H1 e))
/-- [e for x in rows if t] -/
theorem ep_lcRows {tl : TE} {j : Nat} {vs : List Nat} {hss : List (List Nat)} (p : List Nat → Bool) (R : List Nat → V → Hp → Prop) (h : EvP tl σ H (isRows hss)) (mr : ∀ ms, Mo (R ms)) (hz : hss.length ≤ 40000) (hw : ∀ x, wipe ((wipe σ vs).set j (some x)) vs = wipe σ vs)
    (ht : ∀ ms r H1, Ex H H1 → ms ∈ hss → H1 r = some (.lst (LI ms)) → EvT t ((wipe σ vs).set j (some (.ref r))) H1 (p ms))
    (he : ∀ ms r Dl H1, Ex H H1 → ms ∈ hss → p ms = true → H1 r = some (.lst (LI ms)) → r ≠ Dl → (∃ o, H1 Dl = some o) → ∀ Q : VK, (∀ y H4, Ex H1 H4 → R ms y (less H4 Dl) → Q y H4) → te ((wipe σ vs).set j (some (.ref r))) H1 Q) :
    EvP (tLc (iList K tl) (gName j) t te vs) σ H (fun v H' => ∃ q ys, v = .ref q ∧ H q = none ∧ H' q = some (.lst ys) ∧ AllP (less H' q) ((hss.filter p).map R) ys) := fun H0 e Q q => h H0 e _ fun v H1 e1 hv => by
  obtain ⟨a, xs, rfl, hx, hA⟩ := hv
  have hxl : xs.length = hss.length := by rw [hA.len, List.length_map]
  have mo : ∀ l : List (List Nat), ∀ P ∈ l.map R, Mo P := fun l P hP => by
    obtain ⟨ms, _, rfl⟩ := List.mem_map.mp hP
    exact mr ms
  refine ⟨a, rfl, ⟨xs, sq_of hx⟩, fun Dl hD => ?_⟩
  refine lc_list (xs := xs) (fun i H' => ∃ acc, Ex H1 H' ∧ H' Dl = some (.lst acc) ∧ acc.length ≤ i ∧ AllP (less H' Dl) (((hss.take i).filter p).map R) acc) ⟨[], Ex.new hD, upd_same, Nat.le_refl 0, by rw [List.take_zero]; exact .nil⟩ (fun i H' _ pv => ?_) (fun i x H' hi pv => ?_) (fun H' pv => ?_)
  · obtain ⟨_, eX, _⟩ := pv
    exact sq_of (eX a _ hx)
  · obtain ⟨acc, eX, hd, hal, hac⟩ := pv
    have hil := (List.getElem?_eq_some_iff.mp hi).1
    obtain ⟨P1, hP1, hx1⟩ := hA.get hi
    rw [List.getElem?_map] at hP1
    obtain ⟨ms, hms, rfl⟩ := Option.map_eq_some_iff.mp hP1
    obtain ⟨r, rfl, hr⟩ := hx1
    have hm : ms ∈ hss := List.mem_of_getElem? hms
    have hrD : r ≠ Dl := ne_of_none hr hD
    have e0 := (e.trans e1).trans eX
    refine ⟨hw _, ?_⟩
    refine ht ms r H' e0 hm (eX r _ hr) H' (Ex.refl _) _ fun H3 e3 => ?_
    have hd3 := e3 Dl _ hd
    cases hp : p ms with
    | false =>
      refine ⟨acc, eX.trans e3, hd3, by omega, ?_⟩
      rw [List.take_add_one, hms, List.filter_append]
      simp only [Option.toList, List.filter_cons, hp, Bool.false_eq_true, if_false, List.filter_nil, List.append_nil]
      exact hac.mono (mo _) (less_mono e3)
    | true =>
      show te _ H3 fun y H4 => ∃ acc', H4 Dl = some (.lst acc') ∧ acc'.length < sizeLine ∧ ∃ acc, Ex H1 (upd H4 Dl (.lst (acc' ++ [y]))) ∧ upd H4 Dl (.lst (acc' ++ [y])) Dl = some (.lst acc) ∧ acc.length ≤ i + 1 ∧ AllP (less (upd H4 Dl (.lst (acc' ++ [y]))) Dl) (((hss.take (i + 1)).filter p).map R) acc
      refine he ms r Dl H3 (e0.trans e3) hm hp ((eX.trans e3) r _ hr) hrD ⟨_, hd3⟩ _ fun y H4 e4 hy => ?_
      refine ⟨acc, e4 Dl _ hd3, sz_lt (by omega), acc ++ [y], Ex.mut ((eX.trans e3).trans e4) hD, upd_same, by rw [List.length_append]; show acc.length + 1 ≤ _; omega, ?_⟩
      rw [less_upd, List.take_add_one, hms, List.filter_append, List.map_append]
      simp only [Option.toList, List.filter_cons, hp, if_true, List.filter_nil, List.map_cons, List.map_nil]
      exact (hac.mono (mo _) (less_mono (e3.trans e4))).snoc hy
  · obtain ⟨acc, eX, hd, _, hac⟩ := pv
    rw [List.take_of_length_le (by omega)] at hac
    exact q _ H' (e1.trans eX) ⟨Dl, acc, rfl, fresh_back (e.trans e1) hD, hd, hac⟩
/-- found.extend(xs) -/
theorem s_ext {l : Addr} {xs : List V} {D : Ends} (hl : H l = some (.lst xs)) (ha : Ev ta σ H (.ref l)) (h : EvP te σ H P) (k : ∀ v H1, Ex H H1 → P v H1 → ∃ b zs, v = .ref b ∧ H1 b = some (.lst zs) ∧ xs.length + zs.length ≤ 100000 ∧ D.nx σ (upd H1 l (.lst (xs ++ zs)))) : tDrop (tBM K "list" rExtend ta (tCons te tNil)) D σ H := ha H (Ex.refl H) _ fun H1 e1 =>
  ⟨Or.inl ⟨rfl, xs, sq_of (e1 l _ hl)⟩, h H1 e1 _ fun v H2 e2 pv => by
    obtain ⟨b, zs, rfl, hb, hz, q⟩ := k v H2 (e1.trans e2) pv
    exact ⟨l, b, xs, zs, rfl, rfl, (e1.trans e2) l _ hl, hb, sz_of hz, q⟩⟩
theorem rows_ahd {H0 : Hp} {hss : List (List Nat)} {v : V} (h : isAhd H0 hss v H) : isRows hss v H := let ⟨p, xs, h1, _, h3, h4⟩ := h; ⟨p, xs, h1, h3, allP_imp (fun _ _ ⟨a, q1, _, _, q3⟩ => ⟨a, q1, q3⟩) h4⟩
theorem el_catR {l : Addr} {xs ys : List V} (ha : EvL ta σ H xs) (hb : Ev tb σ H (.ref l)) (hl : H l = some (.lst ys)) (hz : xs.length + ys.length ≤ 100000) : EvL (tOp rCat ta tb) σ H (xs ++ ys) := fun H1 e Q q =>
  ha H1 e _ fun a H2 ha2 e2 h2 => hb H2 (e.trans e2) _ fun H3 e3 => ⟨a, l, xs, ys, rfl, rfl, e3 a _ h2, ((e.trans e2).trans e3) l _ hl, sz_of hz, fun p hp => q p _ (fresh_back (e2.trans e3) hp) ((e2.trans e3).trans (Ex.new hp)) upd_same⟩
end
end Evl
/-! defs that refuse -/
namespace L2
open PySem PySem.Spec PyProof.Rows
/-- an own error's class at C, of the name x -/
structure Exn (K : PySem.W.Frag) (mg : Str → Option Value) (x : Str) (C : Addr) : Prop where
  ex : PySem.W.excIn K C [.type "ValueError", .type "Exception", .type "BaseException", .type "object"] "ValueError.__new__" = true
  gl : mg x = some (.ref C)
  kp : PySem.W.keepIn K (.ref C) = true
  bs : PySem.W.subIn K (.ref C) (.type "BaseException") = some true
  ty : PySem.W.typeIn K (.ref C) = some (.type "type")
/-- a def that may refuse -/
structure CalX (P : Program) (w : World) (K : PySem.W.Frag) (mg : Str → Option Value) (base : Heap) (k : Nat) (x : Str) (sp : Sp) : Prop where
  ex : ∃ (f : Addr) (fd : FuncData) (ps : List Str), FnOk P w K mg base (L2N.CX P w) k f fd ps sp ∧ mg x = some (.ref f) ∧ PySem.W.keepIn K (.ref f) = true ∧ Binds K fd ps []
theorem calX_of {P : Program} {w : World} {K : PySem.W.Frag} {mg : Str → Option Value} {base : Heap} {k : Nat} {x q : Str} {st : Stmt} {sp : Sp} {f : Addr} {fd : FuncData} {ps : List Str} (F : Fun K x q st f fd) (h : FnOk P w K mg base (L2N.CX P w) k f fd ps sp) (m : mg x = some (.ref f)) (b : Binds K fd ps []) : CalX P w K mg base k x sp :=
  ⟨f, fd, ps, h, m, F.kp, b⟩
theorem takesN {X : Cx} : L2N.Takes X (fun _ _ _ _ => False) := fun _ _ ⟨_, _, _, _, _, _, _, _, _, _, _, _, _, _, _, _, z⟩ => z.elim
/-- a def that may refuse, by its body -/
theorem Fun.okN {P : Program} {w : World} {K : PySem.W.Frag} {mg : Str → Option Value} {base : Heap} {x qual : Str} {st : Stmt} {f : Addr} {fd : FuncData} {N ps : List Str} {k : Nat} {sp : Sp} (F : Fun K x qual st f fd) (S : FnScope N ps (defScope st)) (len : ∀ vs H Q E, sp vs H Q E → vs.length = ps.length)
    (hb : ∀ (cdv : Value) (A : Around) (outer : List Env) (s : Shared) (H : Hp) (vs : List V) (Q : VK) (E : XK), Room k (A.deeper (envOfC qual (defScope st) s.heap.objs.size f cdv)) → sp vs H Q E → ∃ t, PSs (cxOf (L2N.CX P w) P w K mg base N qual (defScope st) f cdv A outer s H E) (defBody st) t ∧ t { nx := fun _ H' => Q .non H', rt := Q } (start N vs) H) :
    FnOk P w K mg base (L2N.CX P w) (k + 1) f fd ps sp := by
  obtain ⟨_, _, _, _, _, _, c, _, _, rfl, h1, h2⟩ := F.ex
  exact fn_of h1 h2 S len fun A outer s H vs Q E r z => hb c A outer s H vs Q E r z
section
variable {X : Cx} {k j : Nat} {x : Str} {sp : Sp} {p pos : Pos} {e : Expr} {es : List Expr} {t : TA} {W : WX}
theorem pe_cX (c : CalX X.prog X.w X.K X.mg X.base k x sp) (hr : Room j X.A) (hk : k ≤ j) (hg : Gl X x) (tk : L2N.Takes X W) (ha : PA X (e :: es) t)
    (hdb : (x == ("__debug__" : Str)) = false := by decide) (he : starEach (e :: es) X.env = (false, eval e X.env) :: starEach es X.env := by rfl) (hpl : (backTo pos (starEach es X.env)).any (·.1) = false := by rfl) :
    PE X (.Call (.Name x p) (e :: es) [] pos) (tCallS sp (WE W) t) := by
  obtain ⟨f, fd, ps, F, hm, kp, b⟩ := c.ex
  exact pe_callS F (hr.mono hk) hg hm kp b (fun σ => L2N.passAt tk σ) ha hdb he hpl
theorem ps_refuse {C : Addr} {m : Str} {j : Nat} {p2 pos2 : Pos} (hc : X.calm = true) (tk : L2N.Takes X W) (c : Exn X.K X.mg x C) (hg : Gl X x) (hdb : (x == ("__debug__" : Str)) = false := by decide) :
    PS X (.Raise (some (.Call (.Name x p) [.Constant (.str m) j p2] [] pos)) none pos2) (fun _ σ H => W (.ref C) none σ H) :=
  L2N.ps_raise hc tk (L2N.pmk_own PySem.F.excBase_ValueError c.ex c.gl c.kp (raises_own c.bs c.ty) hg hdb)
end
end L2
namespace Evl
open PySem L2 Ch
/-- a thing and its type's name -/
inductive ThV (H : Hp) : V → String → Prop where
  | non : ThV H .non "NoneType"
  | bl (b : Bool) : ThV H (.bl b) "bool"
  | int (i : Int) : ThV H (.int i) "int"
  | str (z : Str) : ThV H (.str z) "str"
  | lst {a : Addr} {xs : List V} (h : H a = some (.lst xs)) : ThV H (.ref a) "list"
  | tup {a : Addr} {xs : List V} (h : H a = some (.tup xs)) : ThV H (.ref a) "tuple"
  | dK {a : Addr} {kvs : List (Key × V)} (h : H a = some (.dK kvs)) : ThV H (.ref a) "dict"
  | dT {a : Addr} {kvs : List (List Key × V)} (h : H a = some (.dT kvs)) : ThV H (.ref a) "dict"
section
variable {K : PySem.W.Frag} {w : World} {σ : L2.St} {H H' : Hp} {ta tb tc te tl : TE} {t : TT} {x y v : V} {P P' : V → Hp → Prop} {Ps Rs : List (V → Hp → Prop)} {E : XK}
theorem ThV.mono {T : String} (h : ThV H v T) (e : Ex H H') : ThV H' v T := by
  cases h with
  | non => exact .non
  | bl b => exact .bl b
  | int i => exact .int i
  | str z => exact .str z
  | lst h => exact .lst (e _ _ h)
  | tup h => exact .tup (e _ _ h)
  | dK h => exact .dK (e _ _ h)
  | dT h => exact .dT (e _ _ h)
theorem ThV.ty {T : String} (h : ThV H v T) : TyX K H v (.type T) := by
  cases h with
  | non => exact .base .non
  | bl b => exact .base (.bl b)
  | int i => exact .base (.int i)
  | str z => exact .base (.str z)
  | lst h => exact .base (.lst h)
  | tup h => exact .base (.tup h)
  | dK h => exact .base (.dK h)
  | dT h => exact .base (.dT h)
/-- is a thing of the type T one of c's -/
def subT (T c : String) : Bool := T == c || (T == "bool" && c == "int")
theorem ThV.kit {T c : String} (h : ThV H v T) (hc : c = "int" ∨ c = "bool" ∨ c = "list" ∨ c = "str" ∨ c = "tuple") : PySem.W.kitOne K (.type T) (.type c) = some (subT T c) := by
  rcases hc with rfl | rfl | rfl | rfl | rfl <;> cases h <;> first | exact kit_ty (r := true) (by decide +kernel) | exact kit_ty (r := false) (by decide +kernel)
theorem ev_isiT {T c : String} (ha : Ev ta σ H v) (hb : Ev tb σ H (.ty c)) (h : ThV H v T) (hc : c = "int" ∨ c = "bool" ∨ c = "list" ∨ c = "str" ∨ c = "tuple") : Ev (tCB (rIsi K) (tCons ta (tCons tb tNil))) σ H (.bl (subT T c)) :=
  ev_isi ha hb (fun H1 e => (h.mono e).ty) (h.kit hc)
/-- a call that may refuse: where it does not -/
theorem ev_callS {sp : Sp} {Es : L2.St → XK} {ua : TA} {vs : List V} (h : EvA ua σ H vs) (hs : ∀ H1, Ex H H1 → ∀ Q : VK, (∀ H2, Ex H1 H2 → Q v H2) → sp vs H1 Q (Es σ)) : Ev (tCallS sp Es ua) σ H v := fun H1 e Q q =>
  h H1 e _ fun H2 e2 => hs H2 (e.trans e2) Q fun H3 e3 => q H3 (e2.trans e3)
/-- as a statement, either way -/
theorem q_dropS {sp : Sp} {Es : L2.St → XK} {ua : TA} {vs : List V} {tz : TS} {D : Ends} (h : EvA ua σ H vs) (k : ∀ H1, Ex H H1 → sp vs H1 (fun _ H2 => tz D σ H2) (Es σ)) : tSeq (tDrop (tCallS sp Es ua)) tz D σ H := h H (Ex.refl H) _ fun H1 e1 => k H1 e1
end
end Evl
/-! a comprehension in an except suite; defs held in slots; expressions that refuse -/
namespace L2
open PySem PySem.Spec PyProof.Rows L2H
/-- the block of a comprehension that bears p -/
abbrev Cx.blkP (X : Cx) (s : Shared) (H : Hp) (sc : Scope) (ce : Env) (fp : List Addr) (p : Addr × Obj) : Cx := (X.blk s H sc ce fp).tr [p] fun _ _ => False
section
variable {X : Cx}
theorem pe_lcH {p : Addr × Obj} {elt tg iter : Expr} {sc : Scope} {own : List (Str × Nat)} {pos : Pos} {wi : TI} {g : TG} {te : TE} (hot : Hot1 X.A p) (hp : p ∈ X.pn) (hN : X.N.Nodup) (hi : PIH X tg iter wi) (ok : BlkOk X.N X.env.scope sc own)
    (hg : ∀ (s : Shared) (H : Hp) (C : Addr) (cl : List (Str × Addr)) (fp : List Addr), PG (X.blkP s H sc (compEnvC sc cl C X.env) fp p) tg g)
    (he : ∀ (s : Shared) (H : Hp) (C : Addr) (cl : List (Str × Addr)) (fp : List Addr), PE (X.blkP s H sc (compEnvC sc cl C X.env) fp p) elt te) (hs : ∀ x, foldedSetIterable iter X.env x = pure x := by intro _; rfl) :
    PE X (.ListComp elt [⟨tg, iter, [], 0⟩] sc pos) (tLc wi g tYes te (own.map (·.2))) := by
  refine ⟨fun pins s σ H Q I h => ?_⟩
  rw [eval_ListComp]
  have cells : ∀ y ∈ sc.names, y.2 = .free → ∃ c, X.env.cells.lookup y.1 = some c := fun y hy e => (ok.free y hy e).elim (fun z => I.ok.has _ (.inl z)) fun z => I.ok.has _ (.inr z)
  refine wpAny_comprehension_free rfl hs (closure_ok cells) ok.kind (fun y hy e => by rw [ok.uniq y hy, e]) ?_
  refine thn (hi.run pins s σ H _ I h) fun _ _ hx => thn hx fun _ s2 hy => ?_
  obtain ⟨it, fp, tn, J, H2, rfl, I2, T, t2, f2, q⟩ := hy
  refine wpAny_newObj_type (newEnv_comp ?_) (by show 0 ≤ sizeLine; decide)
  -- the new list lies at D
  have dn : H2 s2.heap.objs.size = none := I2.hok.fresh (Nat.le_refl _)
  obtain ⟨W, ⟨m0, w0⟩, turn⟩ := q s2.heap.objs.size dn
  have got : (s2.heap.push { cls := .type "list", data := .seq ([] : List Value).toArray }).get? s2.heap.objs.size = some { cls := .type "list", data := .seq ([] : List Value).toArray } := Heap.get?_push_size _ rfl
  have I3 := I2.laid (t' := s2.toks) (o := .lst []) (fun b o e => Heap.get?_push_of_some { cls := .type "list", data := .seq ([] : List Value).toArray } e) (Nat.le_refl _) ⟨Nat.zero_le _, [], 0, .nil, got⟩
  generalize e3 : ({ s2 with heap := s2.heap.push { cls := .type "list", data := .seq ([] : List Value).toArray }, toks := s2.toks } : Shared) = s3 at I3
  have k3 : ∀ b o, s2.heap.get? b = some o → s3.heap.get? b = some o := fun b o e => by rw [← e3]; exact Heap.get?_push_of_some _ e
  have z3 : s3.heap.objs.size = s2.heap.objs.size + 1 := by rw [← e3]; exact Heap.size_push ..
  generalize eD : s2.heap.objs.size = D at *
  generalize eH : upd H2 D (.lst []) = H3 at *
  have old : ∀ b ∈ fp, b < D := fun b hb => by
    obtain ⟨o, e, _⟩ := T.obj _ _ t2 b hb
    exact eD ▸ Heap.lt_size e
  have f3 : ∀ b ∈ fp, FpOk X pins H3 b ∧ b < s3.heap.objs.size := fun b hb => by
    have l := old b hb
    refine ⟨⟨?_, (f2 b hb).2⟩, by rw [z3]; exact Nat.lt_succ_of_lt l⟩
    rw [← eH, upd_ne (Nat.ne_of_lt l)]
    exact (f2 b hb).1
  have B := block_start I3 ok hN f3
  generalize ecl : cellsFrom (s3.heap.objs.size + 1) sc.names (cloFrom X.env.cells sc.names []) = cl at B
  have G := hg s3 H3 s3.heap.objs.size cl fp
  have V1 := he s3 H3 s3.heap.objs.size cl fp
  have P3 := I3.pin p (List.mem_append_left _ hp)
  have p3 : p.1 < s3.heap.objs.size := Heap.lt_size P3.1
  have nst : p.1 ∉ frs X.stack := fun z => (List.mem_cons.mp (I3.stkSub p.1 z)).elim P3.2.2.1 P3.2.2.2.1
  have grow : ∀ b o, s3.heap.get? b = some o → (pushCells (s3.heap.push { cls := .type "dict", data := .dict #[] }) sc.names).get? b = some o := fun b o e => pushCells_keeps _ _ _ _ (Heap.get?_push_of_some _ e)
  have B2 : Inv (X.blkP s3 H3 sc (compEnvC sc cl s3.heap.objs.size X.env) fp p) [] (wipe σ (own.map (·.2))) H3 { s3 with heap := pushCells (s3.heap.push { cls := .type "dict", data := .dict #[] }) sc.names } :=
    (B.pins_of (pins' := [p]) fun r hr => by
      have er : r = p := by simpa using hr
      subst er
      exact ⟨grow _ _ P3.1, P3.2.1, Nat.ne_of_lt p3, nst, P3.2.2.2.2⟩).toTry _
  have hotY : ∀ {s' : Shared} {H' : Hp} {c : Env}, HotC (X.blkP s' H' sc c fp p) := fun {_ _ _} => ⟨p, hot, List.mem_cons_self⟩
  have cL : (compEnvC sc cl s3.heap.objs.size X.env).locals = s3.heap.objs.size := rfl
  show codeAny (model X.prog X.w) X.A (.compStart (.ListComp elt [⟨tg, iter, [], 0⟩] sc pos) 0 (.ref it) (.ref D) (compEnvC sc cl s3.heap.objs.size X.env)) (compPost (model X.prog X.w) X.A X.xe none (EP X pins σ Q) (.ref D) s3.heap.objs.size) _
  generalize compEnvC sc cl s3.heap.objs.size X.env = ce at B2 G V1 cL ⊢
  generalize e4 : ({ s3 with heap := pushCells (s3.heap.push { cls := .type "dict", data := .dict #[] }) sc.names } : Shared) = s4 at B2 ⊢
  have t4 : tn 0 s4.heap := T.keep _ _ _ t2 fun b _ o e => by rw [← e4]; exact grow b o (k3 b o e)
  have fpY : ∀ {σ' : St} {H' : Hp} {s' : Shared}, Inv (X.blkP s3 H3 sc ce fp p) [] σ' H' s' → (∀ b ∈ fp, H' b = none) → ∀ b ∈ fp, FpOk (X.blkP s3 H3 sc ce fp p) [] H' b := fun {σ' H' s'} J' hn b hb => by
    refine ⟨hn b hb, (J'.ok.exf b hb).1, J'.ok.exfs b hb, .inl hb, (J'.ok.exf b hb).2, fun r hr => ?_⟩
    have er : r = p := by simpa using hr
    subst er
    exact (f3 b hb).1.2.2.2.2.2 r (List.mem_append_left _ hp)
  have nofp : ∀ b ∈ fp, H3 b = none := fun b hb => (f3 b hb).1.1
  have loop : codeAny (model X.prog X.w) X.A (.compLoop (.ListComp elt [⟨tg, iter, [], 0⟩] sc pos) 0 (.ref it) (.ref D) ce) (compPost (model X.prog X.w) X.A X.xe none (EP X pins σ Q) (.ref D) s3.heap.objs.size) s4 := by
    refine compLoop_any (fun n s' => ∃ i H', Inv (X.blkP s3 H3 sc ce fp p) [] (wipe σ (own.map (·.2))) H' s' ∧ tn i s'.heap ∧ (∀ b ∈ fp, H' b = none) ∧ W i n H') (fun n s5 hv => ?_) m0 ⟨0, H3, B2, t4, nofp, w0⟩
    obtain ⟨i, H5, I5, t5, n5, w5⟩ := hv
    rcases turn i n H5 w5 with ⟨stop, qq⟩ | ⟨go, Nx, hNx, step⟩
    · refine thnF (T.done (X.blkP s3 H3 sc ce fp p) rfl rfl rfl hotY i [] s5 _ H5 (fun _ _ => False) I5 (fpY I5 n5) t5 stop) fun r s6 hr => ?_
      obtain ⟨rfl, I6⟩ := hr
      have I7 : Inv X pins σ H5 s6 := I3.call' (ch := fp) I6.os I6.base I6.hok I6.bare fun b hb => let z := (f3 b hb).1; ⟨z.2.2.2.1, z.2.1, z.2.2.2.2.1, z.2.2.2.2.2⟩
      have nC : H5 s3.heap.objs.size = none := cL ▸ (show H5 ce.locals = none from I6.free)
      obtain ⟨m, hn, _⟩ := I6.loc
      have hn : s6.heap.Ns s3.heap.objs.size m := cL ▸ (show s6.heap.Ns ce.locals m from hn)
      obtain ⟨g0, g1, _, g3, g4, g5⟩ := I3.fpOk (H' := H5) (Nat.le_refl _) nC
      exact ⟨m, hn, fun h2 sb => ⟨.ref D, H5, I7.turned (t' := s6.toks) (fun b o hb e => (sb.2 b hb).trans e) g0 g1 g3 g4 g5, rfl, qq⟩⟩
    · refine thnF (T.item (X.blkP s3 H3 sc ce fp p) rfl rfl rfl hotY i [] s5 _ H5 (fun _ _ => False) I5 (fpY I5 n5) t5 go) fun r s6 hr => ?_
      obtain ⟨u, rfl, h6⟩ := hr
      refine thnF h6 fun _ s7 hz => ?_
      obtain ⟨x, H7, I7, r7, y7, t7, n7⟩ := hz
      refine thnF (G.run _ s7 _ H7 x u _ (I7.pinned (fpY I7 n7) (T.obj _ _ t7)) r7 (step x H7 y7)) fun _ s8 hq => ?_
      obtain ⟨σ8, H8, I8, hw, q8⟩ := hq
      refine wpAny_tests_nil ?_
      show wpAny (model X.prog X.w) X.A (eval elt ce) _ _ s8
      refine thnF (V1.run _ s8 σ8 H8 _ I8 q8) fun z s10 hq => ?_
      obtain ⟨yv, H10, I10, r10, acc, hD, hz, nx⟩ := hq
      refine app_ok (X := X.blkP s3 H3 sc ce fp p) I10 hD hz r10 fun s11 I11 => ?_
      obtain ⟨m', hm, w'⟩ := hNx _ nx
      have pin' : ∀ b ∈ fp, ∀ o, s7.heap.get? b = some o → s11.heap.get? b = some o ∧ upd H10 D (.lst (acc ++ [yv])) b = none := fun b hb o e =>
        have z := I11.pin (b, o) (List.mem_append_right _ (List.mem_append_right _ (mem_pinsAt hb e)))
        ⟨z.1, z.2.1⟩
      refine ⟨m', hm, i + 1, _, (I11.unpinned (pins := [])).weak (by rw [← hw, wipe_length]) (fun j v e => ?_), T.keep _ _ _ t7 fun b hb o e => (pin' b hb o e).1, fun b hb => ?_, w'⟩
      · rw [← hw] at e
        exact (wipe_some e).1
      · obtain ⟨o, e, _⟩ := T.obj _ _ t7 b hb
        exact (pin' b hb o e).2
  exact codeAny_compStart_list loop (T.self X.A 0 _ _ _ t4 loop)
end
end L2
namespace L2
open PySem PySem.Spec PyProof.Rows
/-- a def that a slot may hold -/
structure HeldG (P : Program) (w : World) (K : PySem.W.Frag) (mg : Str → Option Value) (base : Heap) (CX : CXT) (k : Nat) (f : Addr) (sp : Sp) : Prop where
  ex : ∃ (fd : FuncData) (ps : List Str), FnOk P w K mg base CX k f fd ps sp ∧ PySem.W.keepIn K (.ref f) = true ∧ Binds K fd ps []
/-- the i-th slot holds one of S -/
def tCallG (i : Nat) (S : Addr → Sp → Prop) (Es : St → XK) (t : TA) : TE := fun σ H Q => ∃ f sp, σ[i]? = some (some (.ref f)) ∧ S f sp ∧ t σ H fun vs H1 => sp vs H1 Q (Es σ)
section
variable {X : Cx} {CX : CXT} {k i : Nat} {S : Addr → Sp → Prop} {Es : St → XK} {x : Str} {p pos : Pos} {e : Expr} {es : List Expr} {t : TA} {W : WX}
theorem pe_callG (A : ∀ f sp, S f sp → HeldG X.prog X.w X.K X.mg X.base CX k f sp) (hr : Room k X.A) (hN : X.N[i]? = some x) (hv : Vis X.env.scope x) (hx : ∀ σ, PassesAt CX X σ (Es σ)) (ha : PA X (e :: es) t)
    (hd : (x == ("__debug__" : Str)) = false := by decide) (hc : (x == ("__classdict__" : Str)) = false := by decide)
    (he : starEach (e :: es) X.env = (false, eval e X.env) :: starEach es X.env := by rfl) (hp : (backTo pos (starEach es X.env)).any (·.1) = false := by rfl) : PE X (.Call (.Name x p) (e :: es) [] pos) (tCallG i S Es t) := by
  refine ⟨fun pins s σ H Q I ⟨f, sp, hs, hS, ht⟩ => ?_⟩
  obtain ⟨fd, ps, F, kp, b⟩ := (A f sp hS).ex
  have V1 := (pe_var (pos := p) hN hv hd hc).run pins s σ H (fun v H1 => v = .ref f ∧ H1 = H) I ⟨.ref f, hs, rfl, rfl⟩
  refine wpAny_Call_Name_kw (thn V1 fun u s1 hq => ?_)
  obtain ⟨v, H1, I1, r1, rfl, rfl⟩ := hq
  cases r1
  refine PySem.W.callWith_K (h₀ := X.base) I.ok.mod.kin kp (thn (ha.run pos pins s1 σ _ _ I1 ht) fun us s2 hq => ?_) he hp
  obtain ⟨vs, H2, I2, r, q⟩ := hq
  exact ⟨I2.kIn, run_fnS F hr b (hx σ) I2 r q⟩
/-- one that may refuse -/
theorem pe_callN (A : ∀ f sp, S f sp → HeldG X.prog X.w X.K X.mg X.base (L2N.CX X.prog X.w) k f sp) (hr : Room k X.A) (hN : X.N[i]? = some x) (hv : Vis X.env.scope x) (tk : L2N.Takes X W) (ha : PA X (e :: es) t)
    (hd : (x == ("__debug__" : Str)) = false := by decide) (hc : (x == ("__classdict__" : Str)) = false := by decide)
    (he : starEach (e :: es) X.env = (false, eval e X.env) :: starEach es X.env := by rfl) (hp : (backTo pos (starEach es X.env)).any (·.1) = false := by rfl) : PE X (.Call (.Name x p) (e :: es) [] pos) (tCallG i S (WE W) t) :=
  pe_callG A hr hN hv (fun σ => L2N.passAt tk σ) ha hd hc he hp
/-- one that does not -/
theorem pe_callC (A : ∀ f sp, S f sp → HeldG X.prog X.w X.K X.mg X.base CX0 k f sp) (hr : Room k X.A) (hN : X.N[i]? = some x) (hv : Vis X.env.scope x) (ha : PA X (e :: es) t)
    (hd : (x == ("__debug__" : Str)) = false := by decide) (hc : (x == ("__classdict__" : Str)) = false := by decide)
    (he : starEach (e :: es) X.env = (false, eval e X.env) :: starEach es X.env := by rfl) (hp : (backTo pos (starEach es X.env)).any (·.1) = false := by rfl) : PE X (.Call (.Name x p) (e :: es) [] pos) (tCallG i S (fun _ => E0) t) :=
  pe_callG A hr hN hv (fun σ _ _ _ _ _ _ z => z.elim) ha hd hc he hp
end
end L2
namespace Evl
open PySem L2 Ch
/-- an expression that refuses -/
def XX (te : TE) (σ : L2.St) (H : Hp) : Prop := ∀ H1, Ex H H1 → ∀ Q : VK, te σ H1 Q
section
variable {K : PySem.W.Frag} {w : World} {σ : L2.St} {H H' : Hp} {ta tb tc te tl : TE} {t : TT} {x y v : V} {P P' : V → Hp → Prop} {Ps Rs : List (V → Hp → Prop)} {E : XK} {sp : Sp} {Es : L2.St → XK} {ua : TA} {vs : List V}
theorem xx_call (h : EvA ua σ H vs) (hs : ∀ H1, Ex H H1 → ∀ Q : VK, sp vs H1 Q (Es σ)) : XX (tCallS sp Es ua) σ H := fun H1 e Q => h H1 e _ fun H2 e2 => hs H2 (e.trans e2) Q
theorem xx_if {b : Bool} (h : EvT t σ H b) (h1 : b = true → XX ta σ H) (h2 : b = false → XX tb σ H) : XX (tIf t ta tb) σ H := fun H1 e Q => h H1 e _ fun H2 e2 => by
  cases b with
  | true => exact h1 rfl H2 (e.trans e2) Q
  | false => exact h2 rfl H2 (e.trans e2) Q
theorem s_retX {D : Ends} (h : XX te σ H) : tRet te D σ H := h H (Ex.refl H) _
theorem el_callS {xs : List V} (h : EvA ua σ H vs) (hs : ∀ H1, Ex H H1 → ∀ Q : VK, (∀ p H2, H1 p = none → Ex H1 H2 → H2 p = some (.lst xs) → Q (.ref p) H2) → sp vs H1 Q (Es σ)) : EvL (tCallS sp Es ua) σ H xs := fun H1 e Q q =>
  h H1 e _ fun H2 e2 => hs H2 (e.trans e2) Q fun p H3 hp e3 h3 => q p H3 (fresh_back e2 hp) (e2.trans e3) h3
/-- what is handed in told by words -/
theorem el_callSP {xs : List V} (h : EvAP ua σ H Ps) (hs : ∀ H1 vs, Ex H H1 → AllP H1 Ps vs → ∀ Q : VK, (∀ p H2, H1 p = none → Ex H1 H2 → H2 p = some (.lst xs) → Q (.ref p) H2) → sp vs H1 Q (Es σ)) : EvL (tCallS sp Es ua) σ H xs := fun H1 e Q q =>
  h H1 e _ fun vs H2 e2 ps => hs H2 vs (e.trans e2) ps Q fun p H3 hp e3 h3 => q p H3 (fresh_back e2 hp) (e2.trans e3) h3
theorem ep_callSP (h : EvAP ua σ H Ps) (hs : ∀ H1 vs, Ex H H1 → AllP H1 Ps vs → ∀ Q : VK, (∀ v H2, Ex H1 H2 → P v H2 → Q v H2) → sp vs H1 Q (Es σ)) : EvP (tCallS sp Es ua) σ H P := fun H1 e Q q =>
  h H1 e _ fun vs H2 e2 ps => hs H2 vs (e.trans e2) ps Q fun v H3 e3 p => q v H3 (e2.trans e3) p
theorem ev_callSP (h : EvAP ua σ H Ps) (hs : ∀ H1 vs, Ex H H1 → AllP H1 Ps vs → ∀ Q : VK, (∀ H2, Ex H1 H2 → Q v H2) → sp vs H1 Q (Es σ)) : Ev (tCallS sp Es ua) σ H v := fun H1 e Q q =>
  h H1 e _ fun vs H2 e2 ps => hs H2 vs (e.trans e2) ps Q fun H3 e3 => q H3 (e2.trans e3)
/-- a list whose items are told by a word, not too long -/
def isAll (P : V → Hp → Prop) : V → Hp → Prop := fun v H => ∃ p xs, v = .ref p ∧ H p = some (.lst xs) ∧ 0 < xs.length ∧ xs.length ≤ 100 ∧ ∀ x ∈ xs, P x H
theorem mo_all (m : Mo P) : Mo (isAll P) := fun _ _ _ e ⟨p, xs, h1, h2, h3, h4, h5⟩ => ⟨p, xs, h1, e p _ h2, h3, h4, fun x hx => m _ _ _ e (h5 x hx)⟩
theorem allP_rep {n : Nat} {xs : List V} (h : AllP H (List.replicate n P) xs) : xs.length = n ∧ ∀ x ∈ xs, P x H := by
  have hl := h.len
  rw [List.length_replicate] at hl
  refine ⟨hl, fun x hx => ?_⟩
  obtain ⟨i, hi, e⟩ := List.mem_iff_getElem.mp hx
  obtain ⟨Q, hQ, hx⟩ := h.get (List.getElem?_eq_getElem hi)
  rw [e] at hx
  rw [List.getElem?_replicate] at hQ
  split at hQ
  · cases hQ; exact hx
  · cases hQ
theorem ep_all {n : Nat} (m : Mo P) (h : EvAP ua σ H (List.replicate n P)) (h0 : 0 < n) (hn : n ≤ 100) : EvP (tLst ua) σ H (isAll P) :=
  (ep_lst h (fun Q hQ => by rw [(List.mem_replicate.mp hQ).2]; exact m) (by rw [List.length_replicate]; omega)).imp fun v H2 e2 ⟨p, xs, h1, h2, h3⟩ => by
    obtain ⟨a, b⟩ := allP_rep h3
    exact ⟨p, xs, h1, h2, by omega, by omega, b⟩
theorem ep_allCat (m : Mo P) (ha : EvP ta σ H (fun v H' => ∃ p xs, v = .ref p ∧ H' p = some (.lst xs) ∧ xs.length ≤ 60 ∧ ∀ x ∈ xs, P x H')) (hb : EvP tb σ H (fun v H' => ∃ p xs, v = .ref p ∧ H' p = some (.lst xs) ∧ 0 < xs.length ∧ xs.length ≤ 40 ∧ ∀ x ∈ xs, P x H')) : EvP (tOp rCat ta tb) σ H (isAll P) := fun H1 e Q q =>
  ha H1 e _ fun v H2 e2 ⟨l, xs, hv, h2, hx, hX⟩ => hb H2 (e.trans e2) _ fun u H3 e3 ⟨r, ys, hu, h3, hy0, hy, hY⟩ =>
    ⟨l, r, xs, ys, hv, hu, e3 l _ h2, h3, sz_of (by omega), fun b hb' => q _ _ ((e2.trans e3).trans (Ex.new hb')) ⟨b, xs ++ ys, rfl, upd_same, by rw [List.length_append]; omega, by rw [List.length_append]; omega, fun x hx => by
      rcases List.mem_append.mp hx with h | h
      · exact m _ _ _ (e3.trans (Ex.new hb')) (hX x h)
      · exact m _ _ _ (Ex.new hb') (hY x h)⟩⟩
/-- all([e for x in l]), l told by a word -/
theorem ev_allW {R : V → Hp → Prop} {j : Nat} {ws : List Nat} (h : EvP tl σ H (isAll R)) (hw : ∀ x, wipe ((wipe σ ws).set j (some x)) ws = wipe σ ws)
    (he : ∀ x H1, Ex H H1 → R x H1 → Ev te ((wipe σ ws).set j (some x)) H1 (.bl true)) : Ev (tCB (rAll K) (tCons (tLc (iList K tl) (gName j) tYes te ws) tNil)) σ H (.bl true) := fun H0 e Q q =>
  h H0 e _ fun v H1 e1 ⟨p, xs, hv, hp, _, hl, hR⟩ => by
    subst hv
    have k := ev_allL (K := K) (σ := σ) (H := H1) (te := te) (tl := fun _ H Q => Q (.ref p) H) (j := j) (vs := ws) (fun H2 e2 Q q => q H2 (Ex.refl H2)) (sq_of hp) (by omega) hw (fun x hx H2 e2 => Ev.mono e2 (he x H1 (e.trans e1) (hR x hx)))
    exact k H1 (Ex.refl H1) Q fun H2 e2 => q H2 (e1.trans e2)
end
end Evl
namespace L2
open PySem PySem.Spec PyProof.Rows
theorem hot_of {X : Cx} {a : Addr} {oe : Obj} {cls : Value} {d : Option Addr} {pn : List (Addr × Obj)} (hz : L2N.Zn cls d oe) (hf : ∃ vs, oe.data = .fields vs) : L2H.Hot1 (X.suite a ((a, oe) :: pn)).A (a, oe) :=
  let ⟨vs, e⟩ := hf; ⟨rfl, vs, e, hz.2.2 vs e⟩
/-- isinstance(error, c), the error's class told by the reading -/
def rIsV (K : PySem.W.Frag) (cls : Value) (d : Option Addr) (a : Addr) : List V → Hp → VK → Prop := fun xs H Q => ∃ D, cls = .ref D ∧ d = none ∧ ExcC K D ∧ rIsE K D a xs H Q
theorem call_isV {X : Cx} {a : Addr} {oe : Obj} {cls : Value} {d : Option Addr} {pn : List (Addr × Obj)} (hz : L2N.Zn cls d oe) (hf : ∃ vs, oe.data = .fields vs) : CallR (X.suite a ((a, oe) :: pn)) (.builtin "isinstance") (rIsV X.K cls d a) := by
  intro pins s σ H xs us Q I r ⟨D, h1, h2, C, h⟩
  subst h1 h2
  exact call_isE C hz.zc hf pins s σ H xs us Q I r h
end L2
namespace Evl
open PySem L2 Ch
section
variable {K : PySem.W.Frag} {w : World} {σ : L2.St} {H H' : Hp} {ta tb tc te tl : TE} {t : TT} {x y v : V} {P P' : V → Hp → Prop} {Ps Rs : List (V → Hp → Prop)} {E : XK} {sp : Sp} {Es : L2.St → XK} {ua : TA} {vs : List V}
theorem ev_isE {a D C : Addr} {b : Bool} (c : ExcC K D) (ha : Ev ta σ H (.ref a)) (hb : Ev tb σ H (.ref C)) (hk : PySem.W.kitOne K (.ref D) (.ref C) = some b) : Ev (tCB (rIsV K (.ref D) none a) (tCons ta (tCons tb tNil))) σ H (.bl b) := fun H1 e Q q =>
  ha H1 e _ fun H2 e2 => hb H2 (e.trans e2) _ fun H3 e3 => ⟨D, rfl, rfl, c, .ref C, .ref C, b, rfl, fun _ h => h, hk, q H3 (e2.trans e3)⟩
theorem ev_isET {a D : Addr} {n : String} {b : Bool} (c : ExcC K D) (ha : Ev ta σ H (.ref a)) (hb : Ev tb σ H (.ty n)) (hk : PySem.W.kitOne K (.ref D) (.type n) = some b) : Ev (tCB (rIsV K (.ref D) none a) (tCons ta (tCons tb tNil))) σ H (.bl b) := fun H1 e Q q =>
  ha H1 e _ fun H2 e2 => hb H2 (e.trans e2) _ fun H3 e3 => ⟨D, rfl, rfl, c, .ty n, .type n, b, rfl, fun _ h => h, hk, q H3 (e2.trans e3)⟩
theorem xx_callP (h : EvAP ua σ H Ps) (hs : ∀ H1 vs, Ex H H1 → AllP H1 Ps vs → ∀ Q : VK, sp vs H1 Q (Es σ)) : XX (tCallS sp Es ua) σ H := fun H1 e Q => h H1 e _ fun vs H2 e2 ps => hs H2 vs (e.trans e2) ps Q
theorem s_dropG {i : Nat} {S : Addr → Sp → Prop} {f : Addr} {D : Ends} (hi : σ[i]? = some (some (.ref f))) (hS : S f sp) (h : EvA ua σ H vs) (k : ∀ H1, Ex H H1 → sp vs H1 (fun _ H2 => D.nx σ H2) (Es σ)) : tDrop (tCallG i S Es ua) D σ H :=
  ⟨f, sp, hi, hS, h H (Ex.refl H) _ fun H1 e1 => k H1 e1⟩
theorem ep_callG {i : Nat} {S : Addr → Sp → Prop} {f : Addr} (hi : σ[i]? = some (some (.ref f))) (hS : S f sp) (h : EvA ua σ H vs) (hs : ∀ H1, Ex H H1 → ∀ Q : VK, (∀ v H2, Ex H1 H2 → P v H2 → Q v H2) → sp vs H1 Q (Es σ)) : EvP (tCallG i S Es ua) σ H P := fun H1 e Q q =>
  ⟨f, sp, hi, hS, h H1 e _ fun H2 e2 => hs H2 (e.trans e2) Q fun v H3 e3 p => q v H3 (e2.trans e3) p⟩
/-! lists of truth values as data -/
def dB (bs : List Bool) : PyData := .list (bs.map .bool)
theorem dpAll_bl : ∀ bs : List Bool, DpAll K H (bs.map V.bl) (bs.map .bool)
  | [] => .nil
  | b :: r => .cons (.bl b) (dpAll_bl r)
theorem depthAll_bl : ∀ bs : List Bool, PyData.depthAll (bs.map .bool) ≤ 1
  | [] => by simp [PyData.depthAll]
  | b :: r => by have := depthAll_bl r; simp only [List.map_cons, PyData.depthAll, PyData.depth]; omega
theorem canAll_bl : ∀ bs : List Bool, PyData.canLayAll0 (bs.map .bool) = true
  | [] => by simp [PyData.canLayAll0]
  | b :: r => by simp only [List.map_cons, PyData.canLayAll0, PyData.canLay0, canAll_bl r, Bool.and_self]
theorem shB (bs : List Bool) : SeqAt.shaped (dB bs) = true := by
  have h1 := depthAll_bl bs
  simp only [SeqAt.shaped, dB, PyData.canLay0, canAll_bl, PyData.depth, Bool.true_and]
  exact decide_eq_true (by omega)
theorem eqvAll_bl : ∀ a b : List Bool, PyData.eqvAll (a.map .bool) (b.map .bool) = decide (a = b)
  | [], [] => by simp [PyData.eqvAll]
  | [], _ :: _ => by simp [PyData.eqvAll]
  | _ :: _, [] => by simp [PyData.eqvAll]
  | x :: a, y :: b => by
    simp only [List.map_cons, PyData.eqvAll, eqvAll_bl a b, PyData.eqv]
    cases x <;> cases y <;> simp
theorem ep_blv {a : Addr} {bs : List Bool} (h : Ev te σ H (.ref a)) (ha : H a = some (.lst (bs.map V.bl))) : EvP te σ H (IsD K (dB bs)) := ep_ev h fun H1 e => .lst (sq_of (e a _ ha)) (dpAll_bl bs)
theorem ep_bln {bs : List Bool} (h : EvL te σ H (bs.map V.bl)) : EvP te σ H (IsD K (dB bs)) := ep_el h fun a H1 _ h1 => .lst (sq_of h1) (dpAll_bl bs)
theorem ev_eqB {a b : List Bool} (ha : EvP ta σ H (IsD K (dB a))) (hb : EvP tb σ H (IsD K (dB b))) : Ev (tOp (rEqD K) ta tb) σ H (.bl (decide (a = b))) := by
  have := ev_eqD ha hb (shB a) (shB b)
  rw [show PyData.eqv (dB a) (dB b) = decide (a = b) by simp only [dB, PyData.eqv]; exact eqvAll_bl a b] at this
  exact this
end
end Evl
namespace L2
open PySem PySem.Spec PyProof.Rows
/-- l.append(e), where the context's table is told apart -/
theorem pe_appK {X : Cx} {K : PySem.W.Frag} {o e : Expr} {to te : TE} {apos cpos : Pos} (hK : X.K = K) (ho : PE X o to) (ha : PE X e te) (hb : attributeBase o "append" X.env (eval o X.env) = eval o X.env := by rfl)
    (hf : ((backTo cpos (starEach [e] X.env)).all (fun x => !x.1) && (backToKw cpos (keywordEach [] X.env)).all (fun x => x.1.isSome) && decide ([e].length + ([] : List Keyword).length + (if ([] : List Keyword).isEmpty then 0 else 1) < 30)) = true := by rfl)
    (hl : (apos.endLine == cpos.line) = true := by rfl) (hs : starEach [e] X.env = (false, eval e X.env) :: starEach [] X.env := by rfl) (hp : (backTo cpos (starEach [] X.env)).any (·.1) = false := by rfl) :
    PE X (.Call (.Attribute o "append" apos) [e] [] cpos) (tBM K "list" rAppend to (tCons te tNil)) := by
  subst hK
  exact pe_bm PySem.F.plainAttrs_list PySem.F.slot_list_append PySem.F.type_list_append mt_append ho (pa_cons ha pa_nil hs) hb hf hl hs hp
end L2
/-! a lambda handed to a def beside one more thing -/
namespace L2
open PySem PySem.Spec PyProof.Rows LamX
theorem traced_mono {h B : Heap} {a : Addr} {Z Z' : Obj → Prop} {v : Value} (i : ∀ o, Z o → Z' o) (x : HandSPX.TracedZ h B a Z v) : HandSPX.TracedZ h B a Z' v :=
  let ⟨oe, vs, T, oT, ts, h1, h2, h3⟩ := x; ⟨oe, vs, T, oT, ts, h1, i _ h2, h3⟩
theorem sky_mono {B h : Heap} {l : List Env} {a L : Addr} {Z Z' : Obj → Prop} (i : ∀ o, Z o → Z' o) (x : Sky B l a Z L h) : Sky B l a Z' L h := by
  rcases x with ⟨h1, h2, h3, oe, vs, h4, h5, h6⟩ | ⟨h1, h2, h3, h4⟩ | ⟨h1, h2, h3, h4⟩
  · exact .inl ⟨h1, h2, h3, oe, vs, h4, i _ h5, h6⟩
  · exact .inr (.inl ⟨h1, h2, h3, traced_mono i h4⟩)
  · exact .inr (.inr ⟨h1, h2, h3, traced_mono i h4⟩)
theorem toN {X : Cx} {W : WX} (tk : Takes X W) : L2N.Takes X W := fun u s' ⟨a, B, sI, pins, σ, H, cls, d, e, I, nb, up, sky, na, os, ag, w⟩ =>
  tk u s' ⟨a, B, sI, pins, σ, H, cls, d, e, I, nb, up, sky_mono (fun _ h => h.zc) sky, na, os, ag, w⟩
section
variable {X : Cx} {pins : List (Addr × Obj)} {σ : St} {H : Hp} {s : Shared}
/-- the lambda's object -/
abbrev lamO (X : Cx) (ar : Arguments) (b : Expr) (sc : Scope) (pm : Value) (c' : Addr) (ct : Value) : Obj := PySem.W.kla_obj "<lambda>" (X.env.qual ++ "<lambda>") ar b sc (cloFrom X.env.cells sc.names []) pm c' ct
/-- x() in the def that got the lambda; what it lets out is told at the slots -/
theorem pe_act2 {CXg : CXT} {Eg : XK} {Ng : List Str} {qg : Str} {sg : Scope} {g f c' : Addr} {cdg pm ct : Value} {ar : Arguments} {b : Expr} {sc : Scope} {k i : Nat} {a : Str} {pn : List (Addr × Obj)} {xe : Value → Shared → Prop} {W : WX} {tb : XK → TE} {p1 p2 : Pos}
    (I : Inv X pins σ H s) (L : LamS X.env.scope sc) (hf : s.heap.get? f = some (lamO X ar b sc pm c' ct)) (hfn : H f = none) (hfr : f ∉ frs X.stack)
    (hbind : bindArgs (PySem.W.kla_fn "<lambda>" (X.env.qual ++ "<lambda>") ar b sc (cloFrom X.env.cells sc.names []) pm (.ref c') ct) ⟨[], []⟩ = pure [])
    (tk : Takes ((cxOf CXg X.prog X.w X.K X.mg X.base Ng qg sg g cdg X.A X.stack s H Eg).tr pn xe) W) (hr : Room (k + 1) (X.A.deeper (envOfC qg sg s.heap.objs.size g cdg)))
    (hbody : ∀ (A : Around) (outer : List Env) (s : Shared) (H : Hp) (E : XK), Room k (A.deeper (lamEnv X sc s.heap.objs.size f c')) → PE (lamCx X A outer s H E sc f c') b (tb E))
    (hN : Ng[i]? = some a) (hv : Vis sg a) (hd : (a == ("__debug__" : Str)) = false := by decide) (hcd : (a == ("__classdict__" : Str)) = false := by decide) :
    PE ((cxOf CXg X.prog X.w X.K X.mg X.base Ng qg sg g cdg X.A X.stack s H Eg).tr pn xe) (.Call (.Name a p1) [] [] p2)
      (fun σZ HZ Q => σZ[i]? = some (some (.ref f)) ∧ HZ c' = some (CodeO c' (X.env.qual ++ "<lambda>")) ∧ tb (WE W σZ) σ HZ Q) := by
  refine ⟨fun pz sz σz Hz Q Iz ⟨hs, hc, ht⟩ => ?_⟩
  have V1 := (pe_var (pos := p1) (i := i) hN hv hd hcd).run pz sz σz Hz (fun v H1 => v = .ref f ∧ H1 = Hz) Iz ⟨.ref f, hs, rfl, rfl⟩
  refine wpAny_Call_Name_kw (thn V1 fun u s1 hq => ?_)
  obtain ⟨v, H1, I1, r1, rfl, rfl⟩ := hq
  cases r1
  have of1 : s1.heap.get? f = some (lamO X ar b sc pm c' ct) := I1.base.keep f _ hf hfn hfr fun z => absurd (show f ∈ ([] : List Addr) from z) List.not_mem_nil
  refine PySem.W.callWith_F0 ⟨_, _, _, _, of1⟩ ?_
  obtain ⟨⟨oc, vs, t, hoc, hdc, hvc⟩, _, _⟩ := I1.hok c' _ hc
  have run : codeAny (model X.prog X.w) (X.A.deeper (envOfC qg sg s.heap.objs.size g cdg)) (.call (.ref f) ⟨[], []⟩) (CR (L2.CX X.prog X.w) (envOfC qg sg s.heap.objs.size g cdg :: X.stack) X.prog X.w H1 s1 Q (WE W σz)) s1 := by
    refine PySem.W.kla_callFunE hr.depth of1 rfl L.co L.gen rfl ⟨c', oc, vs, t, rfl, hoc, hdc, hvc⟩ ?_
    rw [hbind]
    refine wpAny_pure (wpAny_newFunctionEnv (fun y hy => (L.own y hy).2) (fun y hy => absurd hy (by simp)) (fun h1 hns hsb => ⟨I1.nolimit.fresh _ hsb, ?_⟩) L.kind)
    show codeAny _ _ (.expr b (lamEnv X sc s1.heap.objs.size f c')) _ _
    have J := lam_start2 (A := X.A.deeper (envOfC qg sg s.heap.objs.size g cdg)) (outer := envOfC qg sg s.heap.objs.size g cdg :: X.stack) (E := WE W σz) (f := f) (c' := c') (tk := s1.toks + ([] : List (Str × Value)).length) I L I1.env0 hr.hd I1.base hns fun b o e => hsb.extBut b o (Nat.ne_of_lt (Heap.lt_size e)) (Heap.get?_push_of_some _ e)
    refine PySem.W.kla_codeExpr (wpAny_mono ((hbody _ _ s1 H1 _ (hr.deeper _)).run [] _ _ H1 Q J ht) (fun v s' hq => ?_) fun e s' hq => hq)
    obtain ⟨w', H', J', rv, q⟩ := hq
    exact ⟨w', H', J'.os, J'.bare, J'.base, J'.hok, rv, q⟩
  refine wpAny_call (codeAny_mono run fun r s' hq => ?_)
  cases r with
  | error e => exact passAt tk σz pz H1 s1 e s' I1 hq
  | ok fl => cases fl with
    | ret u => exact I1.after hq
    | next => exact False.elim hq
    | brk => exact False.elim hq
    | cont => exact False.elim hq
/-- the def that calls what it got, beside v2 -/
def Gives2 (X : Cx) (Ng : List Str) (x : Str) (sg : Scope) (g : Addr) (cdg : Value) (bg : List Stmt) (a q : Str) (v2 : V) (k : Nat) (TT : (XK → Hp → VK → Prop) → Hp → VK → Prop) : Prop :=
  ∀ (f c' : Addr) (s : Shared) (H : Hp) (Q : VK) (tl : XK → Hp → VK → Prop), Room k (X.A.deeper (envOfC x sg s.heap.objs.size g cdg)) →
    (∀ (W : WX) (pn : List (Addr × Obj)) (xe : Value → Shared → Prop) (p1 p2 : Pos), Takes ((cxOf L2.CX0 X.prog X.w X.K X.mg X.base Ng x sg g cdg X.A X.stack s H L2.E0).tr pn xe) W →
      PE ((cxOf L2.CX0 X.prog X.w X.K X.mg X.base Ng x sg g cdg X.A X.stack s H L2.E0).tr pn xe) (.Call (.Name a p1) [] [] p2) (fun σZ HZ Q => σZ[0]? = some (some (.ref f)) ∧ HZ c' = some (CodeO c' q) ∧ tl (WE W σZ) HZ Q)) →
    H c' = some (CodeO c' q) → TT tl H Q →
    ∃ t, PSs (cxOf L2.CX0 X.prog X.w X.K X.mg X.base Ng x sg g cdg X.A X.stack s H L2.E0).nox bg t ∧ t { nx := fun _ H' => Q .non H', rt := Q } (L2.start Ng [.ref f, v2]) H
def tLam2 (T : List (Addr × Str)) (TT : (XK → Hp → VK → Prop) → Hp → VK → Prop) (t : XK → TE) : TE := fun σ H Q => Tabs T H ∧ ∀ H1, ExtN H H1 → Tabs T H1 → TT (fun E H' Q' => t E σ H' Q') H1 Q
/-- x(lambda: b, e2) -/
theorem pe_lam2 {T : List (Addr × Str)} {TT : (XK → Hp → VK → Prop) → Hp → VK → Prop} {x a a2 : Str} {g c P : Addr} {k : Nat} {pg : Arguments} {bg : List Stmt} {sg : Scope} {dV kV doc pm cdv ct oc : Value} {an od : Option Addr} {osl : Array (Option Value)} {Ng : List Str}
    {ar : Arguments} {b e2 : Expr} {v2 : V} {sc : Scope} {t : XK → TE} {p lpos pos : Pos} (hg : Gl X x) (hm : X.mg x = some (.ref g)) (hk : PySem.W.keepIn X.K (.ref g) = true)
    (lk : X.K.lookup g = some ⟨oc, od, .func (PySem.W.fnOf x x pg bg sg dV kV doc pm an cdv ct), osl⟩) (hcg : PySem.W.codeIn X.K cdv x = true) (hb : L2.Binds X.K (PySem.W.fnOf x x pg bg sg dV kV doc pm an cdv ct) [a, a2] []) (Sg : FnScope Ng [a, a2] sg) (hNg : Ng[0]? = some a) (hva : Vis sg a)
    (hG : Gives2 X Ng x sg g cdv bg a (X.env.qual ++ "<lambda>") v2 (k + 1) TT) (h2 : PA X [e2] (tCons (tC v2) tNil))
    (TB : TabB X.base X.mg c P) (hcode : X.env.code = .ref c) (hmT : (P, X.env.qual ++ "<lambda>") ∈ T) (hu : ∀ p ∈ T, p.1 = P → p.2 = X.env.qual ++ "<lambda>") (hr : Room (k + 2) X.A) (L : LamS X.env.scope sc) (hdef : defaultsOf ar X.env = ([], []))
    (hbind : ∀ (q : Str) (cl : List (Str × Addr)) (pm cv ctv : Value), bindArgs (PySem.W.kla_fn "<lambda>" q ar b sc cl pm cv ctv) ⟨[], []⟩ = pure [])
    (hbody : ∀ (A : Around) (outer : List Env) (s : Shared) (H : Hp) (E : XK) (f c' : Addr), Room k (A.deeper (lamEnv X sc s.heap.objs.size f c')) → PE (lamCx X A outer s H E sc f c') b (t E))
    (hdb : (x == ("__debug__" : Str)) = false := by decide) (hd : (a == ("__debug__" : Str)) = false := by decide) (hcd : (a == ("__classdict__" : Str)) = false := by decide)
    (he : starEach [.Lambda ar b sc lpos, e2] X.env = (false, eval (.Lambda ar b sc lpos) X.env) :: starEach [e2] X.env := by rfl) (hpl : (backTo pos (starEach [e2] X.env)).any (·.1) = false := by rfl) :
    PE X (.Call (.Name x p) [.Lambda ar b sc lpos, e2] [] pos) (tLam2 T TT t) := by
  refine ⟨fun pins s σ H Q I ⟨hT, h⟩ => ?_⟩
  refine wpAny_Call_Name_kw (ld_glob I hg hm ?_ hdb)
  refine PySem.W.callWith_K (h₀ := X.base) I.ok.mod.kin hk ?_ he hpl
  rw [he]
  show wpAny _ _ (spliced ((false, eval (.Lambda ar b sc lpos) X.env) :: backTo pos (starEach [e2] X.env))) _ _ s
  refine Calls.spliced_cons (lam_make2 I TB hcode hmT hu hT hdef (L.has I.ok) fun f c' pm' ct' H1 s' I1 eN T1 hf hfn hfr hco => ?_)
  have nL : f ≠ X.env.locals := fun z => by
    obtain ⟨m, ⟨o, es, ep, e1, e2, _⟩, _⟩ := I1.loc
    rw [← z, hf] at e1
    cases e1
    cases e2
  have nF : f ∉ X.fs := fun z => hfr (by
    rcases I1.ok.stk with e | ⟨e, _⟩
    · rw [e]; exact z
    · rw [e]
      obtain ⟨y, hy, q⟩ := List.mem_filterMap.mp z
      exact List.mem_filterMap.mpr ⟨y, List.mem_cons_of_mem _ hy, q⟩)
  have Ip : Inv X ((f, lamO X ar b sc pm' c' ct') :: pins) σ H1 s' := I1.pins_of fun r hr => by
    rcases List.mem_cons.mp hr with rfl | hr
    · exact ⟨hf, hfn, nL, nF, fun v z => by cases z⟩
    · exact I1.pin r (List.mem_append_right _ hr)
  refine thn (h2.run pos _ s' σ H1 (fun vs H2 => vs = [v2] ∧ H2 = H1) Ip ⟨rfl, rfl⟩) fun us s2 hq => ?_
  obtain ⟨vs, H2, I2, r, rfl, rfl⟩ := hq
  have hf2 := (I2.pin (f, lamO X ar b sc pm' c' ct') (List.mem_append_right _ List.mem_cons_self)).1
  have I3 : Inv X pins σ H2 s2 := I2.pins_of fun p hp => I2.pin p (List.mem_append_right _ (List.mem_cons_of_mem _ hp))
  have lu : us.length = 1 := by rw [← r.length]; rfl
  refine ⟨I3.kIn, ?_⟩
  have run : codeAny (model X.prog X.w) X.A (.call (.ref g) ⟨.ref f :: us, []⟩) (CR L2.CX0 X.stack X.prog X.w H2 s2 Q L2.E0) s2 := by
    refine run_ofS (N := Ng) (ps := [a, a2]) (us := .ref f :: us) (vs := [.ref f, v2]) lk hcg Sg hr I3.env0 (by
      have := hb s2 (.ref f :: us) I3.kIn (by rw [List.append_nil]; show us.length + 1 = 2; omega)
      rw [List.append_nil] at this
      exact this) (.cons rfl r) rfl fun hr' => ?_
    obtain ⟨t', ht', hq'⟩ := hG f c' s2 H2 Q (fun E H' Q' => t E σ H' Q') hr' (fun W pn xe p1 p2 tk => pe_act2 (i := 0) I3 L hf2 hfn hfr (hbind _ _ _ _ _) tk hr' (fun A outer s H E hr2 => hbody A outer s H E f c' hr2) hNg hva hd hcd) hco (h H2 eN T1)
    exact ⟨t', ht'.nox, hq'⟩
  refine wpAny_call (codeAny_mono run fun r s2 hq => ?_)
  cases r with
  | error e => exact (show False from hq).elim
  | ok fl => cases fl with
    | ret u => exact I3.after hq
    | next => exact False.elim hq
    | brk => exact False.elim hq
    | cont => exact False.elim hq
end
end L2
namespace L2
open PySem PySem.Spec PyProof.Rows LamX
section
variable {X : Cx}
/-- list(range(a, b, c)) -/
def tLst3 (ta : TA) : TE := fun σ H Q => ta σ H fun vs H1 => ∃ (i j c : Int) (n : Nat), vs = [.int i, .int j, .int c] ∧ RgC i j c n ∧ n ≤ 100000 ∧ ∀ q, H1 q = none → Q (.ref q) (upd H1 q (.lst ((List.range n).map fun (k : Nat) => V.int (i + (k : Int) * c))))
theorem pe_listRg3 {a b c : Expr} {ta : TA} {p pos p2 pos2 : Pos} (hc : X.calm = true) (hl : Gl X "list") (ml : X.mg "list" = none) (hg : Gl X "range") (hm : X.mg "range" = none) (ha : PA X [a, b, c] ta)
    (hs : starEach [a, b, c] X.env = (false, eval a X.env) :: starEach [b, c] X.env := by rfl) (hp : (backTo pos (starEach [b, c] X.env)).any (·.1) = false := by rfl)
    (na : starEach [Expr.Call (.Name "range" p) [a, b, c] [] pos] X.env = (false, eval (.Call (.Name "range" p) [a, b, c] [] pos) X.env) :: starEach [] X.env := by rfl) :
    PE X (.Call (.Name "list" p2) [.Call (.Name "range" p) [a, b, c] [] pos] [] pos2) (tLst3 ta) := by
  refine ⟨fun pins s σ H Q I h => ?_⟩
  refine Call_ (ld_blt I hl ml boot_list (PyProof.Rows.callWith_type1 (args_cons (Call_ (ld_blt I hg hm boot_range (PyProof.Rows.callWith_type1 (thn (ha.run pos pins s σ H _ I h) fun us s1 hq => ?_) hs hp))) na) na))
  obtain ⟨vs, H1, I1, r1, i, j, k, n, rfl, ⟨c0, c1, c2, c3⟩, hn, q⟩ := hq
  cases r1 with
  | cons r rr => cases rr with
    | cons r' rr => cases rr with
      | cons r'' rr =>
        cases rr
        obtain ⟨t, rfl⟩ := r
        obtain ⟨t', rfl⟩ := r'
        obtain ⟨t'', rfl⟩ := r''
        refine call_range_3 c0 (args_nil ?_) (.inl (PyProof.noPylong_small c1))
        have I2 : Inv X pins σ H1 { s1 with heap := s1.heap.push { cls := .type "range", data := .fields #[.int i t, .int j t', .int k t''] } } := I1.kept (t' := s1.toks) fun b o e => Heap.get?_push_of_some _ e
        refine call_list_range (n := n) (I2.ok.hd hc) (IsRange.new ..) c2 c3 (by omega) fun h' tk acc c' hk e' hi => ?_
        have ev : Vals ((List.range n).map fun (m : Nat) => V.int (i + (m : Int) * k)) acc.toList := by
          have e : acc.toList.length = n := by rw [Array.length_toList]; exact hi.1
          have := vals_of_get acc.toList (fun (m : Nat) => V.int (i + (m : Int) * k)) fun m u hm => by
            obtain ⟨t, rfl⟩ := hi.2 m u (by rw [← hm, Array.getElem?_toList])
            exact ⟨t, rfl⟩
          rw [e] at this
          exact this
        exact ⟨.ref (s1.heap.push { cls := .type "range", data := .fields #[.int i t, .int j t', .int k t''] }).objs.size, _, I2.laid hk (Nat.le_refl _) (show ObjOk X.prog X.w _ _ _ (.lst ((List.range n).map fun (m : Nat) => V.int (i + (m : Int) * k))) from ⟨by rw [List.length_map, List.length_range, sizeLine_eq]; omega, acc.toList, c', ev, by rw [Array.toArray_toList]; exact e'⟩), rfl, q _ (I2.hok.fresh (Nat.le_refl _))⟩
end
end L2
namespace L2
open PySem PySem.Spec PyProof.Rows LamX
/-- isinstance(error, c), of an error of any context -/
theorem call_isVc {X : Cx} {a : Addr} {oe : Obj} {cls : Value} {d : Option Addr} {pn : List (Addr × Obj)} (hz : Zc cls d oe) (hf : ∃ vs, oe.data = .fields vs) : CallR (X.suite a ((a, oe) :: pn)) (.builtin "isinstance") (rIsV X.K cls d a) := by
  intro pins s σ H xs us Q I r ⟨D, h1, h2, C, h⟩
  subst h1 h2
  exact call_isE C hz hf pins s σ H xs us Q I r h
theorem takesL {X : Cx} : Takes X (fun _ _ _ _ => False) := fun _ _ ⟨_, _, _, _, _, _, _, _, _, _, _, _, _, _, _, _, z⟩ => z.elim
/-- a def whose code object is known -/
theorem Fun.okC {P : Program} {w : World} {K : PySem.W.Frag} {mg : Str → Option Value} {base : Heap} {x qual : Str} {st : Stmt} {f c : Addr} {fd : FuncData} {N ps : List Str} {k : Nat} {sp : Sp} (F : Fun K x qual st f fd) (hc : fd.code = .ref c) (S : FnScope N ps (defScope st)) (len : ∀ vs H Q E, sp vs H Q E → vs.length = ps.length)
    (hb : ∀ (A : Around) (outer : List Env) (s : Shared) (H : Hp) (vs : List V) (Q : VK) (E : XK), Room k (A.deeper (envOfC qual (defScope st) s.heap.objs.size f (.ref c))) → sp vs H Q E → ∃ t, PSs (cxOf CX0 P w K mg base N qual (defScope st) f (.ref c) A outer s H E).nox (defBody st) t ∧ t { nx := fun _ H' => Q .non H', rt := Q } (start N vs) H) :
    FnOk P w K mg base CX0 (k + 1) f fd ps sp := by
  obtain ⟨_, _, _, _, _, _, c2, _, _, rfl, h1, h2⟩ := F.ex
  have e : c2 = .ref c := hc
  subst e
  refine fn_of h1 h2 S len fun A outer s H vs Q E r z => ?_
  obtain ⟨t, a, b⟩ := hb A outer s H vs Q E r z
  exact ⟨t, a.nox, b⟩
section
variable {X : Cx} {k j : Nat} {x : Str} {sp : Sp} {p pos : Pos}
/-- f() -/
theorem pe_c0 (c : Cal X.prog X.w X.K X.mg X.base k x sp) (hr : Room j X.A) (hk : k ≤ j) (hg : Gl X x) (hdb : (x == ("__debug__" : Str)) = false := by decide) : PE X (.Call (.Name x p) [] [] pos) (tCall sp [] E0 tNil) := by
  obtain ⟨f, fd, ps, F, hm, kp, b⟩ := c.ex
  exact pe_call0 F (hr.mono hk) hg hm kp b .nil pass0 hdb
end
theorem noTab_none {K : PySem.W.Frag} {h : Heap} {P : Addr} {vs : Array Value} (X : K.In h) (hK : PySem.W.noTabs K = true) (hP : h.get? P = some { cls := .none, data := .fields vs }) : K.lookup P = none := by
  cases e : K.lookup P with
  | none => rfl
  | some o =>
    have e2 := X P o e
    rw [hP] at e2
    cases e2
    have h2 := List.all_eq_true.mp hK _ (PySem.W.mem_of_lookupK e)
    exact absurd (show false = true from h2) Bool.false_ne_true
/-- the code object and the table of a def of the top -/
theorem tab_here {q : Program} {loose : List Str} {mean : ExcName → Option Value} {mg mb : Str → Option Value} {h : Heap} {K : PySem.W.Frag} {x qual : Str} {st : Stmt} {f : Addr} {fd : FuncData} (T : Top q loose mean mg mb h) (X : K.In h) (hd : ((recsOf q).any fun e => e.name == x) = true) (hm : mg x = some (.ref f)) (F : Fun K x qual st f fd) (nt : PySem.W.noTabs K = true) :
    ∃ c P, fd.code = .ref c ∧ h.get? P = some { cls := .none, data := .fields #[] } ∧ K.lookup P = none ∧ PySem.W.CodeHd h c P := by
  obtain ⟨d, hd1, hd2⟩ := List.any_eq_true.mp hd
  have e0 : d.name = x := beq_iff_eq.mp hd2
  obtain ⟨a, o, fd', c, P, h1, h2, h3, h4, h5, h6⟩ := T.tab d hd1
  rw [e0, hm] at h1
  cases h1
  obtain ⟨_, _, _, _, _, _, _, _, _, rfl, l1, _⟩ := F.ex
  have e2 := X _ _ l1
  rw [h2] at e2
  cases e2
  cases h3
  obtain ⟨_, g5⟩ := id h6
  exact ⟨c, P, h4, g5, noTab_none X nt g5, PySem.W.CodeHd.of h5 h6⟩
/-- the end, with the top at hand -/
theorem walk_lam {l : PySem.W.OpenLaw} {n k : Nat} {q : Program} {loose : List Str} {XP : (Str → Option Value) → Heap → Prop} {YP : World → Heap → Prop} {d : DefRec} {K : Params → PySem.W.Frag} {x : Str}
    (hn : l.most = some n) (hn2 : n ≤ sizeLine) (hdf : d.params.defaults = []) (hr : Room k callerA) (hY : ∀ (w : World) (h : Heap), YP w h → (K w.params).In h)
    (F : ∀ (w : World) (mean : ExcName → Option Value) (mg mb : Str → Option Value) (fa : Addr) (h : Heap), (K w.params).In h → Top q (PySem.W.looseW q loose) mean mg mb h → mg d.name = some (.ref fa) → LawAtS l w (K w.params) CX0 k n x mg fa h) :
    PySem.W.WalkO q loose XP YP l.row.toRowW d [] (fun f vs => PySem.call f vs) := by
  refine Att.attach_callB hn hdf fun w s0 s1 mg mb fa o pm cd doc a vs ns G Y ho hd hcd hmg hobj hints hlen hbits hg => ?_
  obtain ⟨fd, cs, sp, hT, nT, C, hb, hsp, hF⟩ := F w _ mg mb fa _ (hY w _ Y) G.T hmg
  exact law_callTs (hY w _ Y) G.T.g G.T.b G.T.builtins G.T.nolimit hg hT nT C G.T.bmain hobj hints (Nat.le_trans hlen hn2) hr hF hb (fun H hH hS => hsp H a ns hlen hbits hH hS) fun _ _ _ z => z.elim
end L2
namespace Evl
open PySem L2 Ch
theorem el_lst3 {σ : L2.St} {H : Hp} {ua : TA} {i j c : Int} {n : Nat} (h : EvA ua σ H [.int i, .int j, .int c]) (hc : RgC i j c n) (hn : n ≤ 100000) : EvL (tLst3 ua) σ H ((List.range n).map fun (k : Nat) => V.int (i + (k : Int) * c)) := fun H1 e Q q =>
  h H1 e _ fun H2 e2 => ⟨i, j, c, n, rfl, hc, hn, fun p hp => q p _ (fresh_back e2 hp) (e2.trans (Ex.new hp)) upd_same⟩
end Evl
namespace Evl
open PySem L2 Ch
/-- so many items, each told by P -/
def isAllN (n : Nat) (P : V → Hp → Prop) : V → Hp → Prop := fun v H => ∃ p xs, v = .ref p ∧ H p = some (.lst xs) ∧ xs.length = n ∧ ∀ x ∈ xs, P x H
section
variable {K : PySem.W.Frag} {σ : L2.St} {H : Hp} {te ta tb : TE} {ua : TA} {v : V} {xs : List V} {Pr : V → Hp → Prop} {n m : Nat}
theorem mo_allN (mo : Mo Pr) : Mo (isAllN n Pr) := fun _ _ _ e ⟨p, xs, h1, h2, h3, h4⟩ => ⟨p, xs, h1, e p _ h2, h3, fun x hx => mo _ _ _ e (h4 x hx)⟩
theorem ep_allN (n : Nat) (mo : Mo Pr) (h : EvAP ua σ H (List.replicate n Pr)) (hn : n ≤ 100) : EvP (tLst ua) σ H (isAllN n Pr) :=
  (ep_lst h (fun Q hQ => by rw [(List.mem_replicate.mp hQ).2]; exact mo) (by rw [List.length_replicate]; omega)).imp fun v H2 e2 ⟨p, xs, h1, h2, h3⟩ => ⟨p, xs, h1, h2, (allP_rep h3).1, (allP_rep h3).2⟩
theorem ep_catAllN (mo : Mo Pr) (ha : EvP ta σ H (isAllN m Pr)) (hb : EvP tb σ H (isAllN n Pr)) (hn : m + n ≤ 100) : EvP (tOp rCat ta tb) σ H (isAllN (m + n) Pr) := fun H1 e Q q =>
  ha H1 e _ fun v H2 e2 ⟨l, xs, hv, h2, hx, hX⟩ => hb H2 (e.trans e2) _ fun u H3 e3 ⟨r, ys, hu, h3, hy, hY⟩ =>
    ⟨l, r, xs, ys, hv, hu, e3 l _ h2, h3, sz_of (by omega), fun b hb' => q _ _ ((e2.trans e3).trans (Ex.new hb')) ⟨b, xs ++ ys, rfl, upd_same, by rw [List.length_append]; omega, fun x hx => by
      rcases List.mem_append.mp hx with h | h
      · exact mo _ _ _ (e3.trans (Ex.new hb')) (hX x h)
      · exact mo _ _ _ (Ex.new hb') (hY x h)⟩⟩
theorem ep_allVar (mo : Mo Pr) (h : Ev te σ H v) (hv : isAllN n Pr v H) : EvP te σ H (isAllN n Pr) := ep_ev h fun H1 e => mo_allN mo _ _ _ e hv
theorem ev_mulx (b : Bool) {c : Str} {k : Int} (n : Nat) (hc : c = mk [b]) (hk : k = (n : Int)) (hn : n ≤ 1000) (ha : Ev ta σ H (.str c)) (hb : Ev tb σ H (.int k)) : Ev (tOp rRepS ta tb) σ H (.str (mk (List.replicate n b))) := by
  have := ev_repS ha hb (by rw [hc, mk_len]; show 1 ≤ 100; decide) (by omega)
  rw [hc, mul_mk b hk] at this
  exact this
theorem allP_one {vs : List V} (h : AllP H [Pr] vs) : ∃ v, vs = [v] ∧ Pr v H := by
  cases h with
  | cons p r => cases r; exact ⟨_, rfl, p⟩
theorem allP_two {Qr : V → Hp → Prop} {vs : List V} (h : AllP H [Pr, Qr] vs) : ∃ u v, vs = [u, v] ∧ Pr u H ∧ Qr v H := by
  cases h with
  | cons p r => cases r with
    | cons p2 r => cases r; exact ⟨_, _, rfl, p, p2⟩
theorem allP_three {Qr Rr : V → Hp → Prop} {vs : List V} (h : AllP H [Pr, Qr, Rr] vs) : ∃ u v y, vs = [u, v, y] ∧ Pr u H ∧ Qr v H ∧ Rr y H := by
  cases h with
  | cons p r => cases r with
    | cons p2 r => cases r with
      | cons p3 r => cases r; exact ⟨_, _, _, rfl, p, p2, p3⟩
end
end Evl
/-! lambdas without captured names as values -/
namespace L2
open PySem PySem.Spec PyProof.Rows LamX
/-- the words of a lambda that captures nothing -/
structure LamD where
  q : Str
  ar : Arguments
  b : Expr
  sc : Scope
abbrev lamB (d : LamD) (pm : Value) (c' : Addr) (ct : Value) : Obj := PySem.W.kla_obj "<lambda>" d.q d.ar d.b d.sc [] pm c' ct
/-- such a lambda at f, its code object at c' -/
def LamV (f c' : Addr) (d : LamD) : HO := .ext fun h => ∃ pm ct, h.get? f = some (lamB d pm c' ct)
theorem lamV_ne {f c' : Addr} {d : LamD} (ps : Array Value) : LamV f c' d ≠ .tbl ps := fun z => by unfold LamV at z; cases z
theorem lamV_ok {P : Program} {w : World} {H : Hp} {h : Heap} {f c' : Addr} {d : LamD} {pm ct : Value} (e : h.get? f = some (lamB d pm c' ct)) : ObjOk P w H h f (LamV f c' d) :=
  ⟨⟨pm, ct, e⟩, ⟨_, e⟩, fun _ _ ⟨pm, ct, e⟩ st => ⟨pm, ct, st _ e⟩⟩
section
variable {X : Cx} {pins : List (Addr × Obj)} {σ : St} {H : Hp} {s : Shared}
theorem tabs_new {T : List (Addr × Str)} {f : Addr} {o : HO} (t : Tabs T H) (h : H f = none) : Tabs T (upd H f o) := t.ext fun b u e => by rw [upd_ne (ne_of_none e h)]; exact e
/-- the lambda is made, and known from now on -/
theorem lam_make3 {T : List (Addr × Str)} {c P : Addr} {ar : Arguments} {b : Expr} {sc : Scope} {pos : Pos} {E : Value → Shared → Prop} {Q : Value → Shared → Prop} (I : Inv X pins σ H s) (TB : TabB X.base X.mg c P) (hcode : X.env.code = .ref c)
    (hm : (P, X.env.qual ++ "<lambda>") ∈ T) (hu : ∀ p ∈ T, p.1 = P → p.2 = X.env.qual ++ "<lambda>") (hT : Tabs T H) (hdef : defaultsOf ar X.env = ([], [])) (hfree : ∀ y ∈ sc.names, y.2 = .free → ∃ c, X.env.cells.lookup y.1 = some c) (hclo : cloFrom X.env.cells sc.names [] = [])
    (h : ∀ (f c' : Addr) (H1 : Hp) (s' : Shared), Inv X pins σ H1 s' → ExtN H H1 → Tabs T H1 → H1 f = some (LamV f c' ⟨X.env.qual ++ "<lambda>", ar, b, sc⟩) → H1 c' = some (CodeO c' (X.env.qual ++ "<lambda>")) → H f = none → Q (.ref f) s') :
    wpAny (model X.prog X.w) X.A (eval (.Lambda ar b sc pos) X.env) Q E s := by
  obtain ⟨ps, hP, ht, ha⟩ := hT _ hm
  refine PySem.W.kla_eval hdef ?_
  have cl := closure_ok hfree
  rw [hclo] at cl
  have tb : s.heap.get? P = some { cls := .none, data := .fields ps } := I.hok P _ hP
  cases hc : codeAmong pos ps.toList with
  | none =>
    refine PySem.W.kla_makeFunction (mg := X.mg) (P := P) cl I.ok.glob (I.mod.glob.keeps I.bk) hcode (TB.code.keeps I.bk) tb ht hc TB.gP (TB.bm.keeps I.bk) fun c' ctv h' tk hx hge hlt hrec htb => ?_
    obtain ⟨_, oc, vs, t, e2, hoc, hd, hv⟩ := hrec
    cases e2
    have nC : H c' = none := I.hok.fresh hge
    have nF : H h'.objs.size = none := I.hok.fresh (Nat.le_trans hge (Nat.le_of_lt hlt))
    have nPF : h'.objs.size ≠ P := Nat.ne_of_gt (Heap.lt_size htb)
    have J := (inv_table (t' := tk) (more := #[rawInt pos.line, rawInt pos.col, .ref c']) I hP (fun b o hb e => hx b o hb e) htb hge ⟨oc, vs, t, hoc, hd, hv⟩).laid (t' := tk) (fun x o e => Heap.get?_push_of_some (lamB ⟨X.env.qual ++ "<lambda>", ar, b, sc⟩ ((X.mg "__name__").getD .none) c' ctv) e) (Nat.le_refl _) (lamV_ok (Heap.get?_push_size _ rfl))
    have at0 : ∀ x o, H x = some o → x ≠ P → upd (upd H P (.tbl (ps ++ #[rawInt pos.line, rawInt pos.col, .ref c']))) c' (CodeO c' (X.env.qual ++ "<lambda>")) x = some o := fun x o e n => by
      rw [upd_ne (ne_of_none e nC), upd_ne n]
      exact e
    have nF2 : upd (upd H P (.tbl (ps ++ #[rawInt pos.line, rawInt pos.col, .ref c']))) c' (CodeO c' (X.env.qual ++ "<lambda>")) h'.objs.size = none := by
      rw [upd_ne (Nat.ne_of_gt hlt), upd_ne nPF]
      exact nF
    have eL : (ps ++ #[rawInt pos.line, rawInt pos.col, .ref c']).toList = ps.toList ++ [rawInt pos.line, rawInt pos.col, .ref c'] := by simp
    have noT : ∀ x o, H x = some o → (∀ q, o ≠ .tbl q) → x ≠ P := fun x o e n z => n ps (Option.some.inj (e.symm.trans (z ▸ hP)))
    refine h h'.objs.size c' _ _ J (fun x o e n => ?_) (tabs_new (fun p hp => ?_) nF2) upd_same ?_ nF
    · rw [upd_ne (ne_of_none e nF)]
      exact at0 x o e (noT x o e n)
    · by_cases hb : p.1 = P
      · rw [hu p hp hb, hb]
        refine ⟨_, by rw [upd_ne (ne_of_none hP nC), upd_same], by rw [eL]; exact PySem.TriplesOk_snoc _ _ _ _ ht, fun p' cv hcv => ?_⟩
        rw [eL] at hcv
        rcases among_app _ ht hcv with z | z
        · obtain ⟨c0, z1, z2⟩ := ha p' cv z
          exact ⟨c0, z1, at0 c0 _ z2 (noT c0 _ z2 codeO_ne)⟩
        · exact ⟨c', z, upd_same⟩
      · obtain ⟨ps', a1, a2, a3⟩ := hT p hp
        refine ⟨ps', at0 _ _ a1 hb, a2, fun p' cv hcv => ?_⟩
        obtain ⟨c0, z1, z2⟩ := a3 p' cv hcv
        exact ⟨c0, z1, at0 c0 _ z2 (noT c0 _ z2 codeO_ne)⟩
    · rw [upd_ne (Nat.ne_of_lt hlt), upd_same]
  | some cv =>
    obtain ⟨c', rfl, hco⟩ := ha pos cv hc
    refine PySem.W.kla_makeFunctionHit (mg := X.mg) (P := P) cl I.ok.glob (I.mod.glob.keeps I.bk) hcode (TB.code.keeps I.bk) tb ht hc (TB.bm.keeps I.bk) fun ctv h' tk hx hsz => ?_
    have nF : H h'.objs.size = none := I.hok.fresh hsz
    have J := I.laid (t' := tk) (fun x o e => Heap.get?_push_of_some (lamB ⟨X.env.qual ++ "<lambda>", ar, b, sc⟩ ((X.mg "__name__").getD .none) c' ctv) (hx x o e)) hsz (lamV_ok (Heap.get?_push_size _ rfl))
    refine h h'.objs.size c' _ _ J (fun x o e n => ?_) (tabs_new hT nF) upd_same ?_ nF
    · rw [upd_ne (ne_of_none e nF)]
      exact e
    · rw [upd_ne (ne_of_none hco nF)]
      exact hco
/-- lambda x: b, a value -/
def tLamV (T : List (Addr × Str)) (d : LamD) : TE := fun _ H Q => Tabs T H ∧ ∀ f c' H1, ExtN H H1 → Tabs T H1 → H1 f = some (LamV f c' d) → H1 c' = some (CodeO c' d.q) → H f = none → Q (.ref f) H1
theorem pe_lamV {T : List (Addr × Str)} {c P : Addr} {ar : Arguments} {b : Expr} {sc : Scope} {pos : Pos} (TB : TabB X.base X.mg c P) (hcode : X.env.code = .ref c) (hm : (P, X.env.qual ++ "<lambda>") ∈ T) (hu : ∀ p ∈ T, p.1 = P → p.2 = X.env.qual ++ "<lambda>") (hdef : defaultsOf ar X.env = ([], []))
    (hfree : ∀ y ∈ sc.names, y.2 ≠ .free) (hclo : cloFrom X.env.cells sc.names [] = [] := by rfl) : PE X (.Lambda ar b sc pos) (tLamV T ⟨X.env.qual ++ "<lambda>", ar, b, sc⟩) :=
  ⟨fun pins s σ H Q I ⟨hT, h⟩ => lam_make3 I TB hcode hm hu hT hdef (fun y hy e => absurd e (hfree y hy)) hclo fun f c' H1 s' I1 eN T1 hf hc hn => ⟨.ref f, H1, I1, rfl, h f c' H1 eN T1 hf hc hn⟩⟩
end
/-- such a lambda called -/
theorem lam_run {CX : CXT} {P : Program} {w : World} {K : PySem.W.Frag} {mg : Str → Option Value} {base : Heap} {k : Nat} {f c' : Addr} {d : LamD} {pm ct : Value} {N ps : List Str} {A : Around} {outer : List Env} {s : Shared} {H : Hp} {us : List Value} {vs : List V} {Q : VK} {E : XK}
    (hf : s.heap.get? f = some (lamB d pm c' ct)) (hcr : s.heap.CodeRec (.ref c') d.q) (S : FnScope N ps d.sc) (hbind : bindArgs (PySem.W.kla_fn "<lambda>" d.q d.ar d.b d.sc [] pm (.ref c') ct) ⟨us, []⟩ = pure (ps.zip us)) (hr : Room (k + 1) A) (e0 : Env0 P w K mg base A outer s H) (r : Vals vs us) (hl : vs.length = ps.length)
    (hb : Room k (A.deeper (envOfC d.q d.sc s.heap.objs.size f (.ref c'))) → ∃ t, PE (cxOf CX P w K mg base N d.q d.sc f (.ref c') A outer s H E) d.b t ∧ t (start N vs) H Q) :
    codeAny (model P w) A (.call (.ref f) ⟨us, []⟩) (CR CX outer P w H s Q E) s := by
  have lim : s.heap.NoLimit := e0.mod.nolimit.keeps fun b o e => (e0.bs b o e).1
  have kinds : ∀ y ∈ ps.zip us, d.sc.names.lookup y.1 = some .local ∨ (d.sc.names.lookup y.1 = some .cell ∧ ((cellsFrom (s.heap.objs.size + 1) d.sc.names []).lookup y.1).isSome = true) := fun y hy => by
    rcases S.par y.1 (List.of_mem_zip hy).1 with z | z
    · exact .inl z
    · exact .inr ⟨z, PySem.W.cellsFrom_some _ _ _ (.inl z)⟩
  refine PySem.W.kla_callFunE hr.depth hf rfl S.co S.gen rfl hcr ?_
  rw [hbind]
  refine wpAny_pure (wpAny_newFunctionEnv_cells S.kind kinds fun env he s1 x => ?_)
  subst he
  refine ⟨lim.keeps x.toInCall.keep, PySem.W.kla_codeExpr ?_⟩
  obtain ⟨t, ht, hq⟩ := hb (hr.deeper _)
  have I : Inv (cxOf CX P w K mg base N d.q d.sc f (.ref c') A outer s H E) [] (start N vs) H s1 := inv_start S hr.hd e0 hl r x
  refine wpAny_mono (ht.run [] s1 (start N vs) H Q I hq) (fun v s' hs => ?_) fun e s' hs => hs
  obtain ⟨w', H', J, rv, q⟩ := hs
  exact ⟨w', H', J.os, J.bare, J.base, J.hok, rv, q⟩
/-- what a lambda promises -/
structure LamG (P : Program) (w : World) (K : PySem.W.Frag) (mg : Str → Option Value) (base : Heap) (k : Nat) (d : LamD) (sp : Sp) : Prop where
  run : ∀ (A : Around) (outer : List Env) (s : Shared) (H : Hp) (us : List Value) (vs : List V) (Q : VK) (E : XK) (f c' : Addr), Room k A → Env0 P w K mg base A outer s H → H f = some (LamV f c' d) → H c' = some (CodeO c' d.q) → Vals vs us → sp vs H Q E →
    codeAny (model P w) A (.call (.ref f) ⟨us, []⟩) (CR (L2N.CX P w) outer P w H s Q E) s
theorem lamG_of {P : Program} {w : World} {K : PySem.W.Frag} {mg : Str → Option Value} {base : Heap} {k : Nat} {d : LamD} {N ps : List Str} {sp : Sp} (S : FnScope N ps d.sc) (hl : ∀ vs H Q E, sp vs H Q E → vs.length = ps.length)
    (hbind : ∀ (us : List Value) (pm cv ct : Value), us.length = ps.length → bindArgs (PySem.W.kla_fn "<lambda>" d.q d.ar d.b d.sc [] pm cv ct) ⟨us, []⟩ = pure (ps.zip us))
    (hb : ∀ (A : Around) (outer : List Env) (s : Shared) (H : Hp) (vs : List V) (Q : VK) (E : XK) (f c' : Addr), Room k (A.deeper (envOfC d.q d.sc s.heap.objs.size f (.ref c'))) → sp vs H Q E → ∃ t, PE (cxOf (L2N.CX P w) P w K mg base N d.q d.sc f (.ref c') A outer s H E) d.b t ∧ t (start N vs) H Q) : LamG P w K mg base (k + 1) d sp :=
  ⟨fun A outer s H us vs Q E f c' hr e0 hf hc r h => by
    obtain ⟨⟨pm, ct, e1⟩, _, _⟩ := e0.hok f _ hf
    obtain ⟨⟨oc, vs', t, e2, e3, e4⟩, _, _⟩ := e0.hok c' _ hc
    have ln := hl vs H Q E h
    exact lam_run e1 ⟨c', oc, vs', t, rfl, e2, e3, e4⟩ S (hbind us pm (.ref c') ct (by rw [← r.length]; exact ln)) hr e0 r ln fun hr2 => hb A outer s H vs Q E f c' hr2 h⟩
/-- the i-th slot holds a def of S, or a lambda of L -/
def tCallW (i : Nat) (S : Addr → Sp → Prop) (L : LamD → Sp → Prop) (Es : St → XK) (t : TA) : TE := fun σ H Q => ∃ f sp, σ[i]? = some (some (.ref f)) ∧ ((S f sp ∧ t σ H fun vs H1 => sp vs H1 Q (Es σ)) ∨ ∃ c' d, L d sp ∧ H f = some (LamV f c' d) ∧ t σ H fun vs H1 => H1 f = some (LamV f c' d) ∧ H1 c' = some (CodeO c' d.q) ∧ sp vs H1 Q (Es σ))
section
variable {X : Cx} {k i : Nat} {S : Addr → Sp → Prop} {L : LamD → Sp → Prop} {W : WX} {x : Str} {p pos : Pos} {e : Expr} {es : List Expr} {t : TA}
theorem pe_callW (A : ∀ f sp, S f sp → HeldG X.prog X.w X.K X.mg X.base (L2N.CX X.prog X.w) k f sp) (B : ∀ d sp, L d sp → LamG X.prog X.w X.K X.mg X.base k d sp) (hr : Room k X.A) (hN : X.N[i]? = some x) (hv : Vis X.env.scope x) (tk : L2N.Takes X W) (ha : PA X (e :: es) t)
    (hd : (x == ("__debug__" : Str)) = false := by decide) (hc : (x == ("__classdict__" : Str)) = false := by decide)
    (he : starEach (e :: es) X.env = (false, eval e X.env) :: starEach es X.env := by rfl) (hp : (backTo pos (starEach es X.env)).any (·.1) = false := by rfl) : PE X (.Call (.Name x p) (e :: es) [] pos) (tCallW i S L (WE W) t) := by
  refine ⟨fun pins s σ H Q I ⟨f, sp, hs, h⟩ => ?_⟩
  rcases h with ⟨hS, ht⟩ | ⟨c', d, hL, hf, ht⟩
  · exact (pe_callN A hr hN hv tk ha hd hc he hp).run pins s σ H Q I ⟨f, sp, hs, hS, ht⟩
  · have V1 := (pe_var (pos := p) hN hv hd hc).run pins s σ H (fun v H1 => v = .ref f ∧ H1 = H) I ⟨.ref f, hs, rfl, rfl⟩
    refine wpAny_Call_Name_kw (thn V1 fun u s1 hq => ?_)
    obtain ⟨v, H1, I1, r1, rfl, rfl⟩ := hq
    cases r1
    have fnAt : ∀ {s : Shared} {H : Hp} {pins : List (Addr × Obj)} {σ : St}, Inv X pins σ H s → H f = some (LamV f c' d) → PySem.W.FnAt f s.heap := fun {s H pins σ} I hf => by
      obtain ⟨⟨pm, ct, e⟩, _, _⟩ := I.hok f _ hf
      exact ⟨_, _, _, _, e⟩
    refine PySem.W.callWith_F (fnAt I1 hf) (thn (ha.run pos pins s1 σ _ _ I1 ht) fun us s2 hq => ?_) he hp
    obtain ⟨vs, H2, I2, r, hf2, hc2, q⟩ := hq
    refine ⟨fnAt I2 hf2, wpAny_call (codeAny_mono ((B d sp hL).run X.A X.stack s2 H2 us vs Q (WE W σ) f c' hr I2.env0 hf2 hc2 r q) fun r s' hq => ?_)⟩
    cases r with
    | error e => exact L2N.passAt tk σ pins H2 s2 e s' I2 hq
    | ok fl => cases fl with
      | ret u => exact I2.after hq
      | next => exact False.elim hq
      | brk => exact False.elim hq
      | cont => exact False.elim hq
end
end L2
/-! a lambda with one parameter and captured names, handed to a def beside a thing -/
namespace L2
open PySem PySem.Spec PyProof.Rows LamX
/-- the parameter p; else captured names and globals -/
structure LamS1 (so sc : Scope) (p : Str) : Prop where
  kind : sc.kind = .function
  co : sc.isCoroutine = false
  gen : sc.isGenerator = false
  nc : ∀ y ∈ sc.names, y.2 ≠ .cell
  own : ∀ y ∈ sc.names, y.2 = .local → y.1 = p
  par : sc.names.lookup p = some .local
  free : ∀ y ∈ sc.names, y.2 = .free → so.names.lookup y.1 = some .cell ∨ so.names.lookup y.1 = some .free
def lamS1B (so sc : Scope) (p : Str) : Bool := decide (sc.kind = .function) && !sc.isCoroutine && !sc.isGenerator && decide (sc.names.lookup p = some .local) && sc.names.all fun y => !decide (y.2 = .cell) && (!decide (y.2 = .local) || decide (y.1 = p)) && (!decide (y.2 = .free) || decide (so.names.lookup y.1 = some .cell) || decide (so.names.lookup y.1 = some .free))
theorem lamS1_by {so sc : Scope} {p : Str} (h : lamS1B so sc p = true) : LamS1 so sc p := by
  unfold lamS1B at h
  simp only [Bool.and_eq_true, Bool.or_eq_true, Bool.not_eq_true', decide_eq_true_eq, decide_eq_false_iff_not, List.all_eq_true] at h
  obtain ⟨⟨⟨⟨h1, h2⟩, h3⟩, h5⟩, h4⟩ := h
  refine ⟨h1, h2, h3, fun y hy => (h4 y hy).1.1, fun y hy e => (h4 y hy).1.2.elim (fun z => absurd e z) id, h5, fun y hy e => ?_⟩
  rcases (h4 y hy).2 with (z | z) | z
  · exact absurd e z
  · exact .inl z
  · exact .inr z
/-- the context of such a lambda's body: the slots of the def around it, then the parameter -/
def lamCx1 (X : Cx) (A : Around) (outer : List Env) (s : Shared) (H : Hp) (E : XK) (sc : Scope) (f c' : Addr) (p : Str) : Cx :=
  { lamCx X A outer s H E sc f c' with N := X.N ++ [p] }
section
variable {X : Cx} {pins : List (Addr × Obj)} {σ : St} {H HZ : Hp} {s s1 : Shared}
theorem lam_start1 {A : Around} {outer : List Env} {E : XK} {sc : Scope} {f c' : Addr} {h1 : Heap} {tk : Nat} {p : Str} {v : V} {u : Value} (I : Inv X pins σ H s) (L : LamS1 X.env.scope sc p) (hpN : p ∉ X.N) (e0 : Env0 X.prog X.w X.K X.mg X.base A outer s1 HZ) (hd : A.handled = none)
    (un : Un (frs X.stack) [] H HZ s.heap s1.heap) (hns : h1.Ns s1.heap.objs.size fun y => [(p, u)].reverse.lookup y) (kp : ∀ b o, s1.heap.get? b = some o → h1.get? b = some o) (ru : RelV v u) :
    Inv (lamCx1 X A outer s1 HZ E sc f c' p) [] (σ ++ [some v]) HZ { s1 with heap := h1, toks := tk } := by
  have hfree : ∀ y ∈ sc.names, y.2 = .free → ∃ c, X.env.cells.lookup y.1 = some c := fun y hy e => (L.free y hy e).elim (fun z => I.ok.has _ (.inl z)) fun z => I.ok.has _ (.inr z)
  have back : ∀ {y c}, (cloFrom X.env.cells sc.names []).lookup y = some c → X.env.cells.lookup y = some c := fun {y c} e => by
    rcases cloFrom_mem (PySem.mem_of_lookup e) with z | ⟨z1, z2⟩
    · cases z
    · obtain ⟨c1, hc⟩ := hfree _ z1 rfl
      have hc : X.env.cells.lookup y = some c1 := hc
      rw [hc] at z2
      have z2 : c = c1 := z2
      rw [z2]
      exact hc
  have forth : ∀ {y}, sc.names.lookup y = some .free → ∃ c, (cloFrom X.env.cells sc.names []).lookup y = some c := fun {y} e => mem_lookup (cloFrom_has (cells := X.env.cells) (acc := []) (PySem.mem_of_lookup e))
  have stays : ∀ {c : Addr} {z : Option Value}, H c = none → s.heap.IsCell c z → h1.IsCell c z := fun {c z} n ⟨o, ho, hdt⟩ => by
    obtain ⟨sl, q⟩ := un.any ho n List.not_mem_nil
    exact ⟨_, kp _ _ q, hdt⟩
  have noex : ∀ b : Addr, b ∉ (lamCx1 X A outer s1 HZ E sc f c' p).ex := fun b z => absurd (show b ∈ ([] : List Addr) from z) List.not_mem_nil
  have nl : (X.N ++ [p]).length = X.N.length + 1 := by rw [List.length_append]; rfl
  refine ⟨⟨e0.mod, L.kind, rfl, rfl, Nat.le_refl _, fun y z c e1 e2 => I.ok.inj y z c (back e1) (back e2), fun y hy => ?_, fun y c z _ => absurd (show false = true from z) Bool.false_ne_true, fun _ => hd, Around.frames_deeper e0.frames, .inr ⟨rfl, rfl⟩, fun b z => absurd z (noex b), e0.bs, e0.bsz, fun b _ _ => noex b, fun b z => absurd z (noex b), e0.funs, e0.frf⟩, rfl, e0.bare, Un.kept kp, ⟨_, hns, fun i y w e1 e2 e3 => ?_⟩, fun y c e => ?_, e0.hok.fresh (Nat.le_refl _), fun y c e => ?_, fun r hr => absurd (show r ∈ ([] : List (Addr × Obj)) ++ [] from hr) (by simp), e0.hok.kept kp, by show (σ ++ [some v]).length = (X.N ++ [p]).length; rw [nl, List.length_append, I.len]; rfl⟩
  · rcases (show sc.names.lookup y = some .cell ∨ sc.names.lookup y = some .free from hy) with z | z
    · exact absurd rfl (L.nc _ (PySem.mem_of_lookup z))
    · exact forth z
  · have e1 : (X.N ++ [p])[i]? = some y := e1
    rcases Nat.lt_or_ge i X.N.length with hi | hi
    · rw [List.getElem?_append_left hi] at e1
      rw [List.getElem?_append_left (by rw [I.len]; exact hi)] at e2
      rcases (show Vis sc y from e3) with z | z | z
      · have ey : y = p := L.own _ (PySem.mem_of_lookup z) rfl
        exact absurd (ey ▸ List.mem_of_getElem? e1) hpN
      · exact absurd rfl (L.nc _ (PySem.mem_of_lookup z))
      · obtain ⟨m, hn, hl⟩ := I.loc
        have fr := L.free _ (PySem.mem_of_lookup z) rfl
        obtain ⟨w', r, q⟩ := hl i y w e1 e2 (fr.elim (fun k => .inr (.inl k)) fun k => .inr (.inr k))
        obtain ⟨c2, h2⟩ := forth z
        refine ⟨w', r, .inr ⟨.inr z, c2, h2, ?_⟩⟩
        rcases q with ⟨k', _⟩ | ⟨_, c3, e', z'⟩
        · have k' : X.env.scope.names.lookup y = some .local := k'
          rcases fr with k2 | k2 <;> rw [show X.env.scope.names.lookup y = _ from k2] at k' <;> cases k'
        · rw [back h2] at e'
          cases e'
          exact stays (I.freeC y _ (back h2)) z'
    · have hi2 : i = X.N.length := by
        have h3 := (List.getElem?_eq_some_iff.mp e1).1
        omega
      subst hi2
      rw [List.getElem?_append_right (Nat.le_refl _), Nat.sub_self] at e1
      cases e1
      rw [List.getElem?_append_right (by rw [I.len]; exact Nat.le_refl _), I.len, Nat.sub_self] at e2
      cases e2
      refine ⟨u, ru, .inl ⟨L.par, ?_⟩⟩
      show ([(p, u)] : List (Str × Value)).lookup p = some u
      simp [List.lookup]
  · obtain ⟨w', z⟩ := I.cell y c (back e)
    exact ⟨w', stays (I.freeC y c (back e)) z⟩
  · obtain ⟨z, o, ho, _⟩ := I.cell y c (back e)
    exact un.free c o ho (I.freeC y c (back e)) List.not_mem_nil
/-- x(e) in the def that got the lambda -/
theorem pe_act1 {CXg : CXT} {Eg : XK} {Ng : List Str} {qg : Str} {sg : Scope} {g f c' : Addr} {cdg pm ct : Value} {ar : Arguments} {b e3 : Expr} {sc : Scope} {p : Str} {k i : Nat} {a : Str} {pn : List (Addr × Obj)} {xe : Value → Shared → Prop} {W : WX} {tb : XK → TE} {t3 : TA} {p1 p2 : Pos}
    (I : Inv X pins σ H s) (L : LamS1 X.env.scope sc p) (hpN : p ∉ X.N) (hf : s.heap.get? f = some (lamO X ar b sc pm c' ct)) (hfn : H f = none) (hfr : f ∉ frs X.stack)
    (hbind : ∀ u, bindArgs (PySem.W.kla_fn "<lambda>" (X.env.qual ++ "<lambda>") ar b sc (cloFrom X.env.cells sc.names []) pm (.ref c') ct) ⟨[u], []⟩ = pure [(p, u)])
    (tk : Takes ((cxOf CXg X.prog X.w X.K X.mg X.base Ng qg sg g cdg X.A X.stack s H Eg).tr pn xe) W) (hr : Room (k + 1) (X.A.deeper (envOfC qg sg s.heap.objs.size g cdg)))
    (hbody : ∀ (A : Around) (outer : List Env) (s : Shared) (H : Hp) (E : XK), Room k (A.deeper (lamEnv X sc s.heap.objs.size f c')) → PE (lamCx1 X A outer s H E sc f c' p) b (tb E))
    (hN : Ng[i]? = some a) (hv : Vis sg a) (h3 : PA ((cxOf CXg X.prog X.w X.K X.mg X.base Ng qg sg g cdg X.A X.stack s H Eg).tr pn xe) [e3] t3) (hd : (a == ("__debug__" : Str)) = false := by decide) (hcd : (a == ("__classdict__" : Str)) = false := by decide)
    (he : starEach [e3] ((cxOf CXg X.prog X.w X.K X.mg X.base Ng qg sg g cdg X.A X.stack s H Eg).tr pn xe).env = (false, eval e3 ((cxOf CXg X.prog X.w X.K X.mg X.base Ng qg sg g cdg X.A X.stack s H Eg).tr pn xe).env) :: starEach [] ((cxOf CXg X.prog X.w X.K X.mg X.base Ng qg sg g cdg X.A X.stack s H Eg).tr pn xe).env := by rfl) :
    PE ((cxOf CXg X.prog X.w X.K X.mg X.base Ng qg sg g cdg X.A X.stack s H Eg).tr pn xe) (.Call (.Name a p1) [e3] [] p2)
      (fun σZ HZ Q => σZ[i]? = some (some (.ref f)) ∧ t3 σZ HZ fun vs H1 => ∃ v, vs = [v] ∧ H1 c' = some (CodeO c' (X.env.qual ++ "<lambda>")) ∧ tb (WE W σZ) (σ ++ [some v]) H1 Q) := by
  refine ⟨fun pz sz σz Hz Q Iz ⟨hs, ht⟩ => ?_⟩
  have V1 := (pe_var (pos := p1) (i := i) hN hv hd hcd).run pz sz σz Hz (fun v H1 => v = .ref f ∧ H1 = Hz) Iz ⟨.ref f, hs, rfl, rfl⟩
  refine wpAny_Call_Name_kw (thn V1 fun u s1 hq => ?_)
  obtain ⟨v, H1, I1, r1, rfl, rfl⟩ := hq
  cases r1
  have here : ∀ {s2 : Shared} {H2 : Hp} {p2 : List (Addr × Obj)} {σ2 : St}, Inv ((cxOf CXg X.prog X.w X.K X.mg X.base Ng qg sg g cdg X.A X.stack s H Eg).tr pn xe) p2 σ2 H2 s2 → s2.heap.get? f = some (lamO X ar b sc pm c' ct) := fun J => J.base.keep f _ hf hfn hfr fun z => absurd (show f ∈ ([] : List Addr) from z) List.not_mem_nil
  refine PySem.W.callWith_F ⟨_, _, _, _, here I1⟩ (thn (h3.run p2 pz s1 σz _ _ I1 ht) fun us s2 hq => ?_) he (by rfl)
  obtain ⟨vs, H2, I2, r2, v, rfl, hc, hb⟩ := hq
  cases r2 with
  | cons rv rn =>
    rename_i u us'
    cases rn
    refine ⟨⟨_, _, _, _, here I2⟩, ?_⟩
    obtain ⟨⟨oc, ws, t, hoc, hdc, hvc⟩, _, _⟩ := I2.hok c' _ hc
    have run : codeAny (model X.prog X.w) (X.A.deeper (envOfC qg sg s.heap.objs.size g cdg)) (.call (.ref f) ⟨[u], []⟩) (CR (L2.CX X.prog X.w) (envOfC qg sg s.heap.objs.size g cdg :: X.stack) X.prog X.w H2 s2 Q (WE W σz)) s2 := by
      refine PySem.W.kla_callFunE hr.depth (here I2) rfl L.co L.gen rfl ⟨c', oc, ws, t, rfl, hoc, hdc, hvc⟩ ?_
      rw [hbind u]
      refine wpAny_pure (wpAny_newFunctionEnv (fun y hy => L.nc y hy) (fun y hy => by rw [List.mem_singleton.mp hy]; exact L.par) (fun h1 hns hsb => ⟨I2.nolimit.fresh _ hsb, ?_⟩) L.kind)
      show codeAny _ _ (.expr b (lamEnv X sc s2.heap.objs.size f c')) _ _
      have J := lam_start1 (A := X.A.deeper (envOfC qg sg s.heap.objs.size g cdg)) (outer := envOfC qg sg s.heap.objs.size g cdg :: X.stack) (E := WE W σz) (f := f) (c' := c') (tk := s2.toks + ([(p, u)] : List (Str × Value)).length) I L hpN I2.env0 hr.hd I2.base hns (fun b o e => hsb.extBut b o (Nat.ne_of_lt (Heap.lt_size e)) (Heap.get?_push_of_some _ e)) rv
      refine PySem.W.kla_codeExpr (wpAny_mono ((hbody _ _ s2 H2 _ (hr.deeper _)).run [] _ _ H2 Q J hb) (fun v s' hq => ?_) fun e s' hq => hq)
      obtain ⟨w', H', J', rv', q⟩ := hq
      exact ⟨w', H', J'.os, J'.bare, J'.base, J'.hok, rv', q⟩
    refine wpAny_call (codeAny_mono run fun r s' hq => ?_)
    cases r with
    | error e => exact passAt tk σz pz H2 s2 e s' I2 hq
    | ok fl => cases fl with
      | ret u => exact I2.after hq
      | next => exact False.elim hq
      | brk => exact False.elim hq
      | cont => exact False.elim hq
/-- the def that calls what it got with the thing it got -/
def Gives1 (X : Cx) (Ng : List Str) (x : Str) (sg : Scope) (g : Addr) (cdg : Value) (bg : List Stmt) (a q : Str) (k : Nat) (TT : V → (XK → V → Hp → VK → Prop) → Hp → VK → Prop) : Prop :=
  ∀ (f c' : Addr) (s : Shared) (H : Hp) (v2 : V) (Q : VK) (tl : XK → V → Hp → VK → Prop), Room k (X.A.deeper (envOfC x sg s.heap.objs.size g cdg)) →
    (∀ (W : WX) (pn : List (Addr × Obj)) (xe : Value → Shared → Prop) (e3 : Expr) (t3 : TA) (p1 p2 : Pos), Takes ((cxOf L2.CX0 X.prog X.w X.K X.mg X.base Ng x sg g cdg X.A X.stack s H L2.E0).tr pn xe) W → PA ((cxOf L2.CX0 X.prog X.w X.K X.mg X.base Ng x sg g cdg X.A X.stack s H L2.E0).tr pn xe) [e3] t3 →
      starEach [e3] ((cxOf L2.CX0 X.prog X.w X.K X.mg X.base Ng x sg g cdg X.A X.stack s H L2.E0).tr pn xe).env = (false, eval e3 ((cxOf L2.CX0 X.prog X.w X.K X.mg X.base Ng x sg g cdg X.A X.stack s H L2.E0).tr pn xe).env) :: starEach [] ((cxOf L2.CX0 X.prog X.w X.K X.mg X.base Ng x sg g cdg X.A X.stack s H L2.E0).tr pn xe).env →
      PE ((cxOf L2.CX0 X.prog X.w X.K X.mg X.base Ng x sg g cdg X.A X.stack s H L2.E0).tr pn xe) (.Call (.Name a p1) [e3] [] p2) (fun σZ HZ Q => σZ[0]? = some (some (.ref f)) ∧ t3 σZ HZ fun vs H1 => ∃ v, vs = [v] ∧ H1 c' = some (CodeO c' q) ∧ tl (WE W σZ) v H1 Q)) →
    H c' = some (CodeO c' q) → TT v2 tl H Q →
    ∃ t, PSs (cxOf L2.CX0 X.prog X.w X.K X.mg X.base Ng x sg g cdg X.A X.stack s H L2.E0).nox bg t ∧ t { nx := fun _ H' => Q .non H', rt := Q } (L2.start Ng [.ref f, v2]) H
def tLam1 (T : List (Addr × Str)) (TT : V → (XK → V → Hp → VK → Prop) → Hp → VK → Prop) (t : XK → TE) (t2 : TA) : TE := fun σ H Q => Tabs T H ∧ ∀ H1, ExtN H H1 → Tabs T H1 → ∃ v2, (t2 σ H1 fun vs H2 => vs = [v2] ∧ H2 = H1) ∧ TT v2 (fun E v H' Q' => t E (σ ++ [some v]) H' Q') H1 Q
/-- x(lambda p: b, e2) -/
theorem pe_lam1 {T : List (Addr × Str)} {TT : V → (XK → V → Hp → VK → Prop) → Hp → VK → Prop} {x a a2 p : Str} {g c P : Addr} {k : Nat} {pg : Arguments} {bg : List Stmt} {sg : Scope} {dV kV doc pm cdv ct oc : Value} {an od : Option Addr} {osl : Array (Option Value)} {Ng : List Str}
    {ar : Arguments} {b e2 : Expr} {sc : Scope} {t : XK → TE} {t2 : TA} {pp lpos pos : Pos} (hg : Gl X x) (hm : X.mg x = some (.ref g)) (hk : PySem.W.keepIn X.K (.ref g) = true)
    (lk : X.K.lookup g = some ⟨oc, od, .func (PySem.W.fnOf x x pg bg sg dV kV doc pm an cdv ct), osl⟩) (hcg : PySem.W.codeIn X.K cdv x = true) (hb : L2.Binds X.K (PySem.W.fnOf x x pg bg sg dV kV doc pm an cdv ct) [a, a2] []) (Sg : FnScope Ng [a, a2] sg) (hNg : Ng[0]? = some a) (hva : Vis sg a)
    (hG : Gives1 X Ng x sg g cdv bg a (X.env.qual ++ "<lambda>") (k + 1) TT) (h2 : PA X [e2] t2)
    (TB : TabB X.base X.mg c P) (hcode : X.env.code = .ref c) (hmT : (P, X.env.qual ++ "<lambda>") ∈ T) (hu : ∀ p ∈ T, p.1 = P → p.2 = X.env.qual ++ "<lambda>") (hr : Room (k + 2) X.A) (L : LamS1 X.env.scope sc p) (hpN : p ∉ X.N) (hdef : defaultsOf ar X.env = ([], []))
    (hbind : ∀ (q : Str) (cl : List (Str × Addr)) (pm cv ctv u : Value), bindArgs (PySem.W.kla_fn "<lambda>" q ar b sc cl pm cv ctv) ⟨[u], []⟩ = pure [(p, u)])
    (hbody : ∀ (A : Around) (outer : List Env) (s : Shared) (H : Hp) (E : XK) (f c' : Addr), Room k (A.deeper (lamEnv X sc s.heap.objs.size f c')) → PE (lamCx1 X A outer s H E sc f c' p) b (t E))
    (hdb : (x == ("__debug__" : Str)) = false := by decide) (hd : (a == ("__debug__" : Str)) = false := by decide) (hcd : (a == ("__classdict__" : Str)) = false := by decide)
    (he : starEach [.Lambda ar b sc lpos, e2] X.env = (false, eval (.Lambda ar b sc lpos) X.env) :: starEach [e2] X.env := by rfl) (hpl : (backTo pos (starEach [e2] X.env)).any (·.1) = false := by rfl) :
    PE X (.Call (.Name x pp) [.Lambda ar b sc lpos, e2] [] pos) (tLam1 T TT t t2) := by
  refine ⟨fun pins s σ H Q I ⟨hT, h⟩ => ?_⟩
  refine wpAny_Call_Name_kw (ld_glob I hg hm ?_ hdb)
  refine PySem.W.callWith_K (h₀ := X.base) I.ok.mod.kin hk ?_ he hpl
  rw [he]
  show wpAny _ _ (spliced ((false, eval (.Lambda ar b sc lpos) X.env) :: backTo pos (starEach [e2] X.env))) _ _ s
  have hfree : ∀ y ∈ sc.names, y.2 = .free → ∃ c, X.env.cells.lookup y.1 = some c := fun y hy e => (L.free y hy e).elim (fun z => I.ok.has _ (.inl z)) fun z => I.ok.has _ (.inr z)
  refine Calls.spliced_cons (lam_make2 I TB hcode hmT hu hT hdef hfree fun f c' pm' ct' H1 s' I1 eN T1 hf hfn hfr hco => ?_)
  obtain ⟨v2, hv2, hTT⟩ := h H1 eN T1
  have nL : f ≠ X.env.locals := fun z => by
    obtain ⟨m, ⟨o, es, ep, e1, e2, _⟩, _⟩ := I1.loc
    rw [← z, hf] at e1
    cases e1
    cases e2
  have nF : f ∉ X.fs := fun z => hfr (by
    rcases I1.ok.stk with e | ⟨e, _⟩
    · rw [e]; exact z
    · rw [e]
      obtain ⟨y, hy, q⟩ := List.mem_filterMap.mp z
      exact List.mem_filterMap.mpr ⟨y, List.mem_cons_of_mem _ hy, q⟩)
  have Ip : Inv X ((f, lamO X ar b sc pm' c' ct') :: pins) σ H1 s' := I1.pins_of fun r hr => by
    rcases List.mem_cons.mp hr with rfl | hr
    · exact ⟨hf, hfn, nL, nF, fun v z => by cases z⟩
    · exact I1.pin r (List.mem_append_right _ hr)
  refine thn (h2.run pos _ s' σ H1 (fun vs H2 => vs = [v2] ∧ H2 = H1) Ip hv2) fun us s2 hq => ?_
  obtain ⟨vs, H2, I2, r, rfl, rfl⟩ := hq
  have hf2 := (I2.pin (f, lamO X ar b sc pm' c' ct') (List.mem_append_right _ List.mem_cons_self)).1
  have I3 : Inv X pins σ H2 s2 := I2.pins_of fun p hp => I2.pin p (List.mem_append_right _ (List.mem_cons_of_mem _ hp))
  have lu : us.length = 1 := by rw [← r.length]; rfl
  refine ⟨I3.kIn, ?_⟩
  have run : codeAny (model X.prog X.w) X.A (.call (.ref g) ⟨.ref f :: us, []⟩) (CR L2.CX0 X.stack X.prog X.w H2 s2 Q L2.E0) s2 := by
    refine run_ofS (N := Ng) (ps := [a, a2]) (us := .ref f :: us) (vs := [.ref f, v2]) lk hcg Sg hr I3.env0 (by
      have := hb s2 (.ref f :: us) I3.kIn (by rw [List.append_nil]; show us.length + 1 = 2; omega)
      rw [List.append_nil] at this
      exact this) (.cons rfl r) rfl fun hr' => ?_
    obtain ⟨t', ht', hq'⟩ := hG f c' s2 H2 v2 Q (fun E v H' Q' => t E (σ ++ [some v]) H' Q') hr' (fun W pn xe e3 t3 p1 p2 tk h3 he3 => pe_act1 (i := 0) I3 L hpN hf2 hfn hfr (hbind _ _ _ _ _) tk hr' (fun A outer s H E hr2 => hbody A outer s H E f c' hr2) hNg hva h3 hd hcd he3) hco hTT
    exact ⟨t', ht'.nox, hq'⟩
  refine wpAny_call (codeAny_mono run fun r s2 hq => ?_)
  cases r with
  | error e => exact (show False from hq).elim
  | ok fl => cases fl with
    | ret u => exact I3.after hq
    | next => exact False.elim hq
    | brk => exact False.elim hq
    | cont => exact False.elim hq
end
end L2
namespace L2
open PySem PySem.Spec PyProof.Rows
/-- l.index(e), where the context's table is told apart -/
theorem pe_idxK {X : Cx} {K : PySem.W.Frag} {o e : Expr} {to te : TE} {apos cpos : Pos} (hK : X.K = K) (hu : X.A.units + 65 < cLine) (ho : PE X o to) (ha : PE X e te) (hb : attributeBase o "index" X.env (eval o X.env) = eval o X.env := by rfl)
    (hf : ((backTo cpos (starEach [e] X.env)).all (fun x => !x.1) && (backToKw cpos (keywordEach [] X.env)).all (fun x => x.1.isSome) && decide ([e].length + ([] : List Keyword).length + (if ([] : List Keyword).isEmpty then 0 else 1) < 30)) = true := by rfl)
    (hl : (apos.endLine == cpos.line) = true := by rfl) (hs : starEach [e] X.env = (false, eval e X.env) :: starEach [] X.env := by rfl) (hp : (backTo cpos (starEach [] X.env)).any (·.1) = false := by rfl) :
    PE X (.Call (.Attribute o "index" apos) [e] [] cpos) (tBM K "list" (rIndexD K) to (tCons te tNil)) := by
  subst hK
  exact pe_bm PySem.F.plainAttrs_list PySem.F.slot_list_index PySem.F.type_list_index (mt_indexD hu) ho (pa_cons ha pa_nil hs) hb hf hl hs hp
end L2
namespace L2
open PySem PySem.Spec PyProof.Rows LamX
def lamS1NB (sc : Scope) (p : Str) : Bool := decide (sc.kind = .function) && !sc.isCoroutine && !sc.isGenerator && decide (sc.names.lookup p = some .local) && sc.names.all fun y => !decide (y.2 = .cell) && (!decide (y.2 = .local) || decide (y.1 = p)) && !decide (y.2 = .free)
theorem lamS1_nf {so sc : Scope} {p : Str} (h : lamS1NB sc p = true) : LamS1 so sc p := by
  unfold lamS1NB at h
  simp only [Bool.and_eq_true, Bool.or_eq_true, Bool.not_eq_true', decide_eq_true_eq, decide_eq_false_iff_not, List.all_eq_true] at h
  obtain ⟨⟨⟨⟨h1, h2⟩, h3⟩, h5⟩, h4⟩ := h
  exact ⟨h1, h2, h3, fun y hy => (h4 y hy).1.1, fun y hy e => (h4 y hy).1.2.elim (fun z => absurd e z) id, h5, fun y hy e => absurd e (h4 y hy).2⟩
end L2
namespace L2
open PySem PySem.Spec PyProof.Rows LamX
theorem HeldG.mono {P : Program} {w : World} {K : PySem.W.Frag} {mg : Str → Option Value} {base : Heap} {CX : CXT} {k j : Nat} {f : Addr} {sp : Sp} (h : HeldG P w K mg base CX k f sp) (hk : k ≤ j) : HeldG P w K mg base CX j f sp :=
  let ⟨fd, ps, F, a, b⟩ := h.ex; ⟨fd, ps, ⟨F.len, fun A outer s H args us vs Q E hr => F.run A outer s H args us vs Q E (hr.mono hk)⟩, a, b⟩
theorem tabIn_of {K : PySem.W.Frag} {x : Str} {f c P : Addr} {oc xc : Value} {od xd : Option Addr} {fd : FuncData} {sl xl : Array (Option Value)} {vs : Array Value} (ha : PySem.W.nsIn K mainGlobals x = some (some (.ref f))) (l : K.lookup f = some ⟨oc, od, .func fd, sl⟩) (hc : fd.code = .ref c) (lk : K.lookup c = some ⟨xc, xd, .fields vs, xl⟩) (hx : vs[11]? = some (.ref P)) : PySem.W.tabIn K x = some (c, P) := by
  unfold PySem.W.tabIn
  rw [ha]
  simp only
  rw [l]
  simp only
  rw [hc]
  simp only
  rw [lk]
  simp only
  rw [hx]
theorem find_of {q : Program} {x : Str} (h : ((recsOf q).any fun e => e.name == x) = true) : ∃ d, (recsOf q).find? (fun e => e.name == x) = some d := by
  cases hf : (recsOf q).find? (fun e => e.name == x) with
  | some d => exact ⟨d, rfl⟩
  | none =>
    obtain ⟨d, h1, h2⟩ := List.any_eq_true.mp h
    exact absurd h2 (by simpa using List.find?_eq_none.mp hf d h1)
theorem forall2 {α : Type} {a b : α} {Q : α → Prop} (h1 : Q a) (h2 : Q b) : ∀ p ∈ [a, b], Q p := fun p hp => by
  rcases List.mem_cons.mp hp with rfl | hp
  · exact h1
  · rw [List.mem_singleton.mp hp]; exact h2
end L2
/-! lambdas that outlive their maker: the captured cell is known once the maker has ended -/
namespace L2
open PySem PySem.Spec PyProof.Rows LamX
/-- the cell at c holds u -/
def CellO (c : Addr) (u : Value) : HO := .ext fun h => h.IsCell c (some u)
theorem cellO_ne {c : Addr} {u : Value} (ps : Array Value) : CellO c u ≠ .tbl ps := fun z => by unfold CellO at z; cases z
theorem cellO_ok {P : Program} {w : World} {H : Hp} {h : Heap} {c : Addr} {u : Value} (e : h.IsCell c (some u)) : ObjOk P w H h c (CellO c u) :=
  ⟨e, let ⟨o, ho, _⟩ := e; ⟨o, ho⟩, fun _ _ ⟨o, ho, hd⟩ st => ⟨o, st _ ho, hd⟩⟩
/-- statements that end with a return, the slots told -/
structure PR (X : Cx) (sts : List Stmt) (t : (St → V → Hp → Prop) → St → Hp → Prop) : Prop where
  run : ∀ (pins : List (Addr × Obj)) (s : Shared) (σ : St) (H : Hp) (R : St → V → Hp → Prop), Inv X pins σ H s → t R σ H → wpAny (model X.prog X.w) X.A (execs sts X.env) (fun f s' => ∃ u v σ' H', f = .ret u ∧ Inv X pins σ' H' s' ∧ RelV v u ∧ R σ' v H') X.xe s
section
variable {X : Cx} {st : Stmt} {rest : List Stmt} {e : Expr} {te : TE} {pos : Pos} {t1 : TS} {t2 : (St → V → Hp → Prop) → St → Hp → Prop}
theorem pr_cons (h1 : PS X st t1) (h2 : PR X rest t2) : PR X (st :: rest) (fun R σ H => t1 { nx := fun σ' H' => t2 R σ' H', rt := fun _ _ => False, bk := fun _ _ => False, ct := fun _ _ => False } σ H) := by
  refine ⟨fun pins s σ H R I h => wpAny_execs_cons (thn (h1.run pins s σ H _ I h) fun f s1 q => ?_)⟩
  cases f with
  | next => obtain ⟨σ', H', I', q⟩ := q; exact h2.run pins s1 σ' H' R I' q
  | ret v => obtain ⟨_, _, _, _, _, z⟩ := q; exact z.elim
  | brk => obtain ⟨_, _, _, z⟩ := q; exact z.elim
  | cont => obtain ⟨_, _, _, z⟩ := q; exact z.elim
theorem pr_ret (he : PE X e te) : PR X (.Return (some e) pos :: rest) (fun R σ H => te σ H fun v H1 => R σ v H1) :=
  ⟨fun pins s σ H R I h => wpAny_execs_cons (wpAny_Return_some (thn (he.run pins s σ H _ I h) fun u s1 ⟨v, H1, I1, r, q⟩ => ⟨u, v, σ, H1, rfl, I1, r, q⟩))⟩
end
/-- a def whose first parameter is a cell that is known behind the call -/
theorem fn_cell {P : Program} {w : World} {K : PySem.W.Frag} {mg : Str → Option Value} {base : Heap} {k : Nat} {f c : Addr} {x qual : Str} {st : Stmt} {fd : FuncData} {N ps : List Str} {p : Str} {sp : Sp} (F : Fun K x qual st f fd) (hc : fd.code = .ref c) (S : FnScope N ps (defScope st)) (len : ∀ vs H Q E, sp vs H Q E → vs.length = ps.length)
    (hN : N[0]? = some p) (hp : (defScope st).names.lookup p = some .cell)
    (hb : ∀ (A : Around) (outer : List Env) (s : Shared) (H : Hp) (vs : List V) (Q : VK) (E : XK) (c0 : Addr), Room k (A.deeper (envOfC qual (defScope st) s.heap.objs.size f (.ref c))) → sp vs H Q E → (cellsFrom (s.heap.objs.size + 1) (defScope st).names []).lookup p = some c0 → H c0 = none →
      ∃ t, PR (cxOf CX0 P w K mg base N qual (defScope st) f (.ref c) A outer s H E).nox (defBody st) t ∧ t (fun σ v H' => ∃ v0, σ[0]? = some (some v0) ∧ ∀ u, RelV v0 u → H' c0 = none → Q v (upd H' c0 (CellO c0 u))) (start N vs) H) :
    FnOk P w K mg base CX0 (k + 1) f fd ps sp := by
  obtain ⟨_, _, _, _, _, _, c2, _, _, rfl, lk, hcd⟩ := F.ex
  have ec : c2 = .ref c := hc
  subst ec
  refine ⟨len, fun A outer s H args us vs Q E hr e0 hbd r hsp => ?_⟩
  have hl := len _ _ _ _ hsp
  have KX : K.In s.heap := e0.mod.kin.keeps fun b o e => (e0.bs b o e).1
  have lim : s.heap.NoLimit := e0.mod.nolimit.keeps fun b o e => (e0.bs b o e).1
  have kinds : ∀ y ∈ ps.zip us, (defScope st).names.lookup y.1 = some .local ∨ ((defScope st).names.lookup y.1 = some .cell ∧ ((cellsFrom (s.heap.objs.size + 1) (defScope st).names []).lookup y.1).isSome = true) := fun y hy => by
    rcases S.par y.1 (List.of_mem_zip hy).1 with z | z
    · exact .inl z
    · exact .inr ⟨z, PySem.W.cellsFrom_some _ _ _ (.inl z)⟩
  refine codeAny_call_function hr.depth (KX _ _ lk) rfl S.co S.gen rfl (PySem.W.codeRec_of KX hcd) (hbd _ _ _ _ ?_)
  refine wpAny_newFunctionEnv_cells S.kind kinds fun env he s1 x1 => ?_
  subst he
  refine ⟨lim.keeps x1.toInCall.keep, codeAny_func ?_⟩
  have I : Inv (cxOf CX0 P w K mg base N qual (defScope st) f (.ref c) A outer s H E).nox [] (start N vs) H s1 := (inv_start (CX := CX0) (E := E) S hr.hd e0 hl r x1).toTry _
  obtain ⟨c0, hc0⟩ := cell_has (n := s.heap.objs.size + 1) hp
  have big : s.heap.objs.size ≤ c0 := Nat.le_of_lt (x1.above p c0 (PySem.mem_of_lookup hc0))
  obtain ⟨t, ht, hq⟩ := hb A outer s H vs Q E c0 (hr.deeper _) hsp hc0 (e0.hok.fresh big)
  refine wpAny_mono (ht.run [] s1 _ H _ I hq) (fun fl s' hs => ?_) fun e s' hs => hs.elim
  obtain ⟨u, v, σ', H', rfl, J, rv, v0, h0, hQ⟩ := hs
  obtain ⟨m, _, hlook⟩ := J.loc
  obtain ⟨u0, r0, lk0⟩ := hlook 0 p v0 hN h0 (.inr (.inl hp))
  have hcell : s'.heap.IsCell c0 (some u0) := by
    rcases lk0 with ⟨z, _⟩ | ⟨_, c3, z1, z2⟩
    · have z : (defScope st).names.lookup p = some .local := z
      rw [hp] at z
      cases z
    · have z1 : (cellsFrom (s.heap.objs.size + 1) (defScope st).names []).lookup p = some c3 := z1
      rw [hc0] at z1
      cases z1
      exact z2
  have n0 : H' c0 = none := J.freeC p c0 hc0
  have uH : ∀ b o, H' b = some o → upd H' c0 (CellO c0 u0) b = some o := fun b o e => by rw [upd_ne (ne_of_none e n0)]; exact e
  have J1 : Un (frs outer) [] H H' s.heap s'.heap := J.base
  refine ⟨v, upd H' c0 (CellO c0 u0), J.os, J.bare, ⟨J1.keep, J1.slot, fun b o h1 h2 h3 => ?_, J1.there, fun b xs h1 => uH _ _ (J1.tups b xs h1), fun b o u h1 => uH _ _ (J1.frzs b o u h1), fun b qs h1 => let ⟨m, z⟩ := J1.tbls b qs h1; ⟨m, uH _ _ z⟩⟩, fun b o h1 => ?_, rv, hQ u0 r0 n0⟩
  · have nb : b ≠ c0 := fun z => by rw [z] at h1; exact absurd (Heap.lt_size h1) (Nat.not_lt.mpr big)
    rw [upd_ne nb]
    exact J1.free b o h1 h2 h3
  · by_cases eb : b = c0
    · rw [eb, upd_same] at h1
      cases h1
      rw [eb]
      exact cellO_ok hcell
    · rw [upd_ne eb] at h1
      exact (J.hok b o h1).stay (fun _ _ _ q => q) (fun d h2 => uH _ _ h2) fun d xs h2 => uH _ _ h2
/-! a call in a heap that is told but for one thing -/
theorem less_none {H : Hp} {c : Addr} : Evl.less H c c = none := by unfold Evl.less; rw [if_pos rfl]
theorem less_some {H : Hp} {c b : Addr} {o : HO} (h : Evl.less H c b = some o) : b ≠ c ∧ H b = some o := by
  unfold Evl.less at h
  split at h
  · cases h
  · exact ⟨by assumption, h⟩
theorem less_of {H : Hp} {c b : Addr} (n : b ≠ c) : Evl.less H c b = H b := Evl.less_at n
theorem hok_less {P : Program} {w : World} {H : Hp} {h : Heap} {c : Addr} {φ : Heap → Prop} (x : HOk P w H h) (hc : H c = some (.ext φ)) : HOk P w (Evl.less H c) h := fun b o e => by
  obtain ⟨n, e1⟩ := less_some e
  refine (x b o e1).stay (fun _ _ _ q => q) (fun d h2 => ?_) fun d xs h2 => ?_
  · rw [less_of (fun z => by rw [z, hc] at h2; cases h2)]; exact h2
  · rw [less_of (fun z => by rw [z, hc] at h2; cases h2)]; exact h2
theorem env_less {P : Program} {w : World} {K : PySem.W.Frag} {mg : Str → Option Value} {base : Heap} {A : Around} {outer : List Env} {s : Shared} {H : Hp} {c : Addr} {φ : Heap → Prop} (e0 : Env0 P w K mg base A outer s H) (hc : H c = some (.ext φ)) : Env0 P w K mg base A outer s (Evl.less H c) :=
  have z : ∀ {b}, H b = none → Evl.less H c b = none := fun {b} h => by unfold Evl.less; split <;> first | rfl | exact h
  ⟨e0.frames, e0.mod, fun b o h => ⟨(e0.bs b o h).1, z (e0.bs b o h).2⟩, e0.bsz, e0.funs, fun b h => z (e0.frf b h), hok_less e0.hok hc, e0.bare⟩
theorem hok_more {P : Program} {w : World} {H : Hp} {h : Heap} {c : Addr} {o : HO} (x : HOk P w H h) (n : H c = none) (ok : ∀ H2, ObjOk P w H2 h c o) : HOk P w (upd H c o) h := fun b u e => by
  by_cases eb : b = c
  · rw [eb, upd_same] at e
    cases e
    rw [eb]
    exact ok _
  · rw [upd_ne eb] at e
    refine (x b u e).stay (fun _ _ _ q => q) (fun d h2 => ?_) fun d xs h2 => ?_
    · rw [upd_ne (ne_of_none h2 n)]; exact h2
    · rw [upd_ne (ne_of_none h2 n)]; exact h2
/-- what is known of c comes back behind the call -/
theorem call_less {P : Program} {w : World} {K : PySem.W.Frag} {mg : Str → Option Value} {base : Heap} {A : Around} {outer : List Env} {s : Shared} {H : Hp} {c : Addr} {φ : Heap → Prop} {cd : Code} {Q : VK} {E : XK} (e0 : Env0 P w K mg base A outer s H) (hc : H c = some (.ext φ))
    (h : codeAny (model P w) A cd (CR (L2N.CX P w) outer P w (Evl.less H c) s (fun v H' => H' c = none → Q v (upd H' c (.ext φ))) (fun cls d H' => H' c = none → E cls d (upd H' c (.ext φ)))) s) :
    codeAny (model P w) A cd (CR (L2N.CX P w) outer P w H s Q E) s := by
  obtain ⟨f0, ⟨oc, hoc⟩, st⟩ := e0.hok c _ hc
  have nfr : c ∉ frs outer := fun z => by rw [e0.frf c z] at hc; cases hc
  have ln : ∀ {b}, H b = none → Evl.less H c b = none := fun {b} h => by unfold Evl.less; split <;> first | rfl | exact h
  have nc : ∀ {b}, H b = none → b ≠ c := fun {b} h z => by rw [z, hc] at h; cases h
  have ok : ∀ {h' : Heap}, h'.get? c = some oc → ∀ H2, ObjOk P w H2 h' c (.ext φ) := fun {h'} e H2 => ⟨st _ _ f0 fun o q => by rw [hoc] at q; cases q; exact e, ⟨oc, e⟩, st⟩
  have kt : ∀ {H' : Hp} {b : Addr} {o : HO}, H' c = none → H' b = some o → upd H' c (.ext φ) b = some o := fun {H' b o} n e => by rw [upd_ne (ne_of_none e n)]; exact e
  have lt : ∀ {b : Addr} {o : HO}, H b = some o → (∀ ψ, o ≠ .ext ψ) → Evl.less H c b = some o := fun {b o} e n => by rw [less_of (fun z => by rw [z, hc] at e; exact n φ (Option.some.inj e).symm)]; exact e
  refine codeAny_mono h fun r s' hq => ?_
  cases r with
  | error e =>
    obtain ⟨a, B, H', cls, d, rfl, fl, hok, ub, na, os, bare, q⟩ := hq
    have n : H' c = none := ub.free c oc hoc less_none
    have hB : B.get? c = some oc := ub.keep c oc hoc less_none nfr
    have ac : a ≠ c := fun z => by
      have := fl.2.1
      rw [z, hB] at this
      cases this
    exact ⟨a, B, upd H' c (.ext φ), cls, d, rfl, fl, hok_more hok n (ok hB), ⟨fun b o h1 h2 h3 => ub.keep b o h1 (ln h2) h3, ub.slot, fun b o h1 h2 => by rw [upd_ne (nc h2)]; exact ub.free b o h1 (ln h2), ub.there, fun b xs h1 => kt n (ub.tups b xs (lt h1 (fun _ z => by cases z))), fun b o xs h1 => kt n (ub.frzs b o xs (lt h1 (fun _ z => by cases z))), fun b qs h1 => let ⟨m, z⟩ := ub.tbls b qs (lt h1 (fun _ z => by cases z)); ⟨m, kt n z⟩⟩, by rw [upd_ne ac]; exact na, os, bare, q n⟩
  | ok fl =>
    cases fl with
    | ret u =>
      obtain ⟨v, H', os, bare, un, hok, rv, q⟩ := hq
      have n : H' c = none := un.free c oc hoc less_none List.not_mem_nil
      have hB : s'.heap.get? c = some oc := un.keep c oc hoc less_none nfr List.not_mem_nil
      exact ⟨v, upd H' c (.ext φ), os, bare, ⟨fun b o h1 h2 h3 h4 => un.keep b o h1 (ln h2) h3 h4, fun b o h1 h2 h3 h4 => un.slot b o h1 (ln h2) h3 h4, fun b o h1 h2 h3 => by rw [upd_ne (nc h2)]; exact un.free b o h1 (ln h2) h3, un.there, fun b xs h1 => kt n (un.tups b xs (lt h1 (fun _ z => by cases z))), fun b o xs h1 => kt n (un.frzs b o xs (lt h1 (fun _ z => by cases z))), fun b qs h1 => let ⟨m, z⟩ := un.tbls b qs (lt h1 (fun _ z => by cases z)); ⟨m, kt n z⟩⟩, hok_more hok n (ok hB), rv, q n⟩
    | next => exact hq
    | brk => exact hq
    | cont => exact hq
end L2
/-! lambdas without parameters that captured one name, as values -/
namespace L2
open PySem PySem.Spec PyProof.Rows LamX
abbrev lamBC (d : LamD) (n : Str) (c : Addr) (pm : Value) (c' : Addr) (ct : Value) : Obj := PySem.W.kla_obj "<lambda>" d.q d.ar d.b d.sc [(n, c)] pm c' ct
/-- such a lambda at f, its code object at c', the captured cell at c -/
def LamVC (f c' : Addr) (d : LamD) (n : Str) (c : Addr) : HO := .ext fun h => ∃ pm ct, h.get? f = some (lamBC d n c pm c' ct)
theorem lamVC_ne {f c' c : Addr} {d : LamD} {n : Str} (ps : Array Value) : LamVC f c' d n c ≠ .tbl ps := fun z => by unfold LamVC at z; cases z
theorem lamVC_ok {P : Program} {w : World} {H : Hp} {h : Heap} {f c' c : Addr} {d : LamD} {n : Str} {pm ct : Value} (e : h.get? f = some (lamBC d n c pm c' ct)) : ObjOk P w H h f (LamVC f c' d n c) :=
  ⟨⟨pm, ct, e⟩, ⟨_, e⟩, fun _ _ ⟨pm, ct, e⟩ st => ⟨pm, ct, st _ e⟩⟩
section
variable {X : Cx} {pins : List (Addr × Obj)} {σ : St} {H : Hp} {s : Shared}
theorem lam_makeC {T : List (Addr × Str)} {c P cc : Addr} {n : Str} {ar : Arguments} {b : Expr} {sc : Scope} {pos : Pos} {E : Value → Shared → Prop} {Q : Value → Shared → Prop} (I : Inv X pins σ H s) (TB : TabB X.base X.mg c P) (hcode : X.env.code = .ref c)
    (hm : (P, X.env.qual ++ "<lambda>") ∈ T) (hu : ∀ p ∈ T, p.1 = P → p.2 = X.env.qual ++ "<lambda>") (hT : Tabs T H) (hdef : defaultsOf ar X.env = ([], [])) (hfree : ∀ y ∈ sc.names, y.2 = .free → ∃ c, X.env.cells.lookup y.1 = some c) (hclo : cloFrom X.env.cells sc.names [] = [(n, cc)])
    (h : ∀ (f c' : Addr) (H1 : Hp) (s' : Shared), Inv X pins σ H1 s' → ExtN H H1 → Tabs T H1 → H1 f = some (LamVC f c' ⟨X.env.qual ++ "<lambda>", ar, b, sc⟩ n cc) → H1 c' = some (CodeO c' (X.env.qual ++ "<lambda>")) → H f = none → Q (.ref f) s') :
    wpAny (model X.prog X.w) X.A (eval (.Lambda ar b sc pos) X.env) Q E s := by
  obtain ⟨ps, hP, ht, ha⟩ := hT _ hm
  refine PySem.W.kla_eval hdef ?_
  have cl := closure_ok hfree
  rw [hclo] at cl
  have tb : s.heap.get? P = some { cls := .none, data := .fields ps } := I.hok P _ hP
  cases hc : codeAmong pos ps.toList with
  | none =>
    refine PySem.W.kla_makeFunction (mg := X.mg) (P := P) cl I.ok.glob (I.mod.glob.keeps I.bk) hcode (TB.code.keeps I.bk) tb ht hc TB.gP (TB.bm.keeps I.bk) fun c' ctv h' tk hx hge hlt hrec htb => ?_
    obtain ⟨_, oc, vs, t, e2, hoc, hd, hv⟩ := hrec
    cases e2
    have nC : H c' = none := I.hok.fresh hge
    have nF : H h'.objs.size = none := I.hok.fresh (Nat.le_trans hge (Nat.le_of_lt hlt))
    have nPF : h'.objs.size ≠ P := Nat.ne_of_gt (Heap.lt_size htb)
    have J := (inv_table (t' := tk) (more := #[rawInt pos.line, rawInt pos.col, .ref c']) I hP (fun b o hb e => hx b o hb e) htb hge ⟨oc, vs, t, hoc, hd, hv⟩).laid (t' := tk) (fun x o e => Heap.get?_push_of_some (lamBC ⟨X.env.qual ++ "<lambda>", ar, b, sc⟩ n cc ((X.mg "__name__").getD .none) c' ctv) e) (Nat.le_refl _) (lamVC_ok (Heap.get?_push_size _ rfl))
    have at0 : ∀ x o, H x = some o → x ≠ P → upd (upd H P (.tbl (ps ++ #[rawInt pos.line, rawInt pos.col, .ref c']))) c' (CodeO c' (X.env.qual ++ "<lambda>")) x = some o := fun x o e n => by
      rw [upd_ne (ne_of_none e nC), upd_ne n]
      exact e
    have nF2 : upd (upd H P (.tbl (ps ++ #[rawInt pos.line, rawInt pos.col, .ref c']))) c' (CodeO c' (X.env.qual ++ "<lambda>")) h'.objs.size = none := by
      rw [upd_ne (Nat.ne_of_gt hlt), upd_ne nPF]
      exact nF
    have eL : (ps ++ #[rawInt pos.line, rawInt pos.col, .ref c']).toList = ps.toList ++ [rawInt pos.line, rawInt pos.col, .ref c'] := by simp
    have noT : ∀ x o, H x = some o → (∀ q, o ≠ .tbl q) → x ≠ P := fun x o e n z => n ps (Option.some.inj (e.symm.trans (z ▸ hP)))
    refine h h'.objs.size c' _ _ J (fun x o e n => ?_) (tabs_new (fun p hp => ?_) nF2) upd_same ?_ nF
    · rw [upd_ne (ne_of_none e nF)]
      exact at0 x o e (noT x o e n)
    · by_cases hb : p.1 = P
      · rw [hu p hp hb, hb]
        refine ⟨_, by rw [upd_ne (ne_of_none hP nC), upd_same], by rw [eL]; exact PySem.TriplesOk_snoc _ _ _ _ ht, fun p' cv hcv => ?_⟩
        rw [eL] at hcv
        rcases among_app _ ht hcv with z | z
        · obtain ⟨c0, z1, z2⟩ := ha p' cv z
          exact ⟨c0, z1, at0 c0 _ z2 (noT c0 _ z2 codeO_ne)⟩
        · exact ⟨c', z, upd_same⟩
      · obtain ⟨ps', a1, a2, a3⟩ := hT p hp
        refine ⟨ps', at0 _ _ a1 hb, a2, fun p' cv hcv => ?_⟩
        obtain ⟨c0, z1, z2⟩ := a3 p' cv hcv
        exact ⟨c0, z1, at0 c0 _ z2 (noT c0 _ z2 codeO_ne)⟩
    · rw [upd_ne (Nat.ne_of_lt hlt), upd_same]
  | some cv =>
    obtain ⟨c', rfl, hco⟩ := ha pos cv hc
    refine PySem.W.kla_makeFunctionHit (mg := X.mg) (P := P) cl I.ok.glob (I.mod.glob.keeps I.bk) hcode (TB.code.keeps I.bk) tb ht hc (TB.bm.keeps I.bk) fun ctv h' tk hx hsz => ?_
    have nF : H h'.objs.size = none := I.hok.fresh hsz
    have J := I.laid (t' := tk) (fun x o e => Heap.get?_push_of_some (lamBC ⟨X.env.qual ++ "<lambda>", ar, b, sc⟩ n cc ((X.mg "__name__").getD .none) c' ctv) (hx x o e)) hsz (lamVC_ok (Heap.get?_push_size _ rfl))
    refine h h'.objs.size c' _ _ J (fun x o e n => ?_) (tabs_new hT nF) upd_same ?_ nF
    · rw [upd_ne (ne_of_none e nF)]
      exact e
    · rw [upd_ne (ne_of_none hco nF)]
      exact hco
/-- lambda: b, a value, one captured name -/
def tLamC (T : List (Addr × Str)) (d : LamD) (n : Str) (c : Addr) : TE := fun _ H Q => Tabs T H ∧ ∀ f c' H1, ExtN H H1 → Tabs T H1 → H1 f = some (LamVC f c' d n c) → H1 c' = some (CodeO c' d.q) → H f = none → Q (.ref f) H1
theorem pe_lamC {T : List (Addr × Str)} {c P cc : Addr} {n : Str} {ar : Arguments} {b : Expr} {sc : Scope} {pos : Pos} (TB : TabB X.base X.mg c P) (hcode : X.env.code = .ref c) (hm : (P, X.env.qual ++ "<lambda>") ∈ T) (hu : ∀ p ∈ T, p.1 = P → p.2 = X.env.qual ++ "<lambda>") (hdef : defaultsOf ar X.env = ([], []))
    (hfree : ∀ y ∈ sc.names, y.2 = .free → y.1 = n) (hcc : X.env.cells.lookup n = some cc) (hclo : cloFrom X.env.cells sc.names [] = [(n, (X.env.cells.lookup n).getD 0)] := by rfl) : PE X (.Lambda ar b sc pos) (tLamC T ⟨X.env.qual ++ "<lambda>", ar, b, sc⟩ n cc) := by
  rw [hcc] at hclo
  exact ⟨fun pins s σ H Q I ⟨hT, h⟩ => lam_makeC I TB hcode hm hu hT hdef (fun y hy e => ⟨cc, by rw [hfree y hy e]; exact hcc⟩) hclo fun f c' H1 s' I1 eN T1 hf hc hn => ⟨.ref f, H1, I1, rfl, h f c' H1 eN T1 hf hc hn⟩⟩
end
/-- its scope: one captured name, else globals -/
structure LamSC (sc : Scope) (n : Str) : Prop where
  kind : sc.kind = .function
  co : sc.isCoroutine = false
  gen : sc.isGenerator = false
  own : ∀ y ∈ sc.names, y.2 ≠ .local ∧ y.2 ≠ .cell
  free : ∀ y ∈ sc.names, y.2 = .free → y.1 = n
  has : sc.names.lookup n = some .free
/-- the context of its body -/
def cxC (P : Program) (w : World) (K : PySem.W.Frag) (mg : Str → Option Value) (base : Heap) (d : LamD) (n : Str) (c : Addr) (f c' : Addr) (A : Around) (outer : List Env) (s : Shared) (H : Hp) (E : XK) : Cx where
  prog := P
  w := w
  K := K
  mg := mg
  base := base
  A := A.deeper (PySem.W.envX d.q d.sc s.heap.objs.size f (.ref c') [(n, c)])
  N := [n]
  s_0 := s
  H_0 := H
  env := PySem.W.envX d.q d.sc s.heap.objs.size f (.ref c') [(n, c)]
  outer := outer
  stack := PySem.W.envX d.q d.sc s.heap.objs.size f (.ref c') [(n, c)] :: outer
  ex := []
  fn := fun _ => false
  calm := true
  pn := []
  xe := fun e s' => wpAny (model P w) (A.deeper (PySem.W.envX d.q d.sc s.heap.objs.size f (.ref c') [(n, c)])) (leaving (PySem.W.envX d.q d.sc s.heap.objs.size f (.ref c') [(n, c)]) e) (fun _ s'' => L2N.CX P w outer H s E e s'') (fun e' s'' => L2N.CX P w outer H s E e' s'') s'
theorem lamC_run {P : Program} {w : World} {K : PySem.W.Frag} {mg : Str → Option Value} {base : Heap} {k : Nat} {f c' c : Addr} {d : LamD} {n : Str} {pm ct u : Value} {v : V} {A : Around} {outer : List Env} {s : Shared} {H : Hp} {Q : VK} {E : XK}
    (hf : s.heap.get? f = some (lamBC d n c pm c' ct)) (hcr : s.heap.CodeRec (.ref c') d.q) (hcell : s.heap.IsCell c (some u)) (rv : RelV v u) (hn : H c = none) (S : LamSC d.sc n) (hbind : bindArgs (PySem.W.kla_fn "<lambda>" d.q d.ar d.b d.sc [(n, c)] pm (.ref c') ct) ⟨[], []⟩ = pure []) (hr : Room (k + 1) A) (e0 : Env0 P w K mg base A outer s H)
    (hb : Room k (A.deeper (PySem.W.envX d.q d.sc s.heap.objs.size f (.ref c') [(n, c)])) → ∃ t, PE (cxC P w K mg base d n c f c' A outer s H E) d.b t ∧ t [some v] H Q) :
    codeAny (model P w) A (.call (.ref f) ⟨[], []⟩) (CR (L2N.CX P w) outer P w H s Q E) s := by
  have lim : s.heap.NoLimit := e0.mod.nolimit.keeps fun b o e => (e0.bs b o e).1
  refine PySem.W.kla_callFunE hr.depth hf rfl S.co S.gen rfl hcr ?_
  rw [hbind]
  refine wpAny_pure (wpAny_newFunctionEnv (fun y hy => (S.own y hy).2) (fun y hy => absurd hy (by simp)) (fun h1 hns hsb => ⟨lim.fresh _ hsb, ?_⟩) S.kind)
  have kp : ∀ b o, s.heap.get? b = some o → h1.get? b = some o := fun b o e => hsb.extBut b o (Nat.ne_of_lt (Heap.lt_size e)) (Heap.get?_push_of_some _ e)
  have cell1 : h1.IsCell c (some u) := let ⟨o, ho, hd⟩ := hcell; ⟨o, kp _ _ ho, hd⟩
  have one : ∀ {y : Str} {a : Addr}, ([(n, c)] : List (Str × Addr)).lookup y = some a → y = n ∧ a = c := fun {y a} e => by
    rw [List.lookup_cons] at e
    split at e
    · rename_i z
      exact ⟨beq_iff_eq.mp z, (Option.some.inj e).symm⟩
    · cases e
  have self : ([(n, c)] : List (Str × Addr)).lookup n = some c := by simp [List.lookup]
  have noex : ∀ b : Addr, b ∉ (cxC P w K mg base d n c f c' A outer s H E).ex := fun b z => absurd (show b ∈ ([] : List Addr) from z) List.not_mem_nil
  obtain ⟨t, ht, hq⟩ := hb (hr.deeper _)
  have I : Inv (cxC P w K mg base d n c f c' A outer s H E) [] [some v] H { s with heap := h1, toks := s.toks + ([] : List (Str × Value)).length } := by
    refine ⟨⟨e0.mod, S.kind, rfl, rfl, Nat.le_refl _, fun y z a e1 e2 => (one e1).1.trans (one e2).1.symm, fun y hy => ?_, fun y a z _ => absurd (show false = true from z) Bool.false_ne_true, fun _ => hr.hd, Around.frames_deeper e0.frames, .inr ⟨rfl, rfl⟩, fun b z => absurd z (noex b), e0.bs, e0.bsz, fun b _ _ => noex b, fun b z => absurd z (noex b), e0.funs, e0.frf⟩, rfl, e0.bare, Un.kept kp, ⟨_, hns, fun i y a e1 e2 e3 => ?_⟩, fun y a e => ⟨some u, (one e).2 ▸ cell1⟩, e0.hok.fresh (Nat.le_refl _), fun y a e => (one e).2 ▸ hn, fun r hr => absurd (show r ∈ ([] : List (Addr × Obj)) ++ [] from hr) (by simp), e0.hok.kept kp, rfl⟩
    · rcases (show d.sc.names.lookup y = some .cell ∨ d.sc.names.lookup y = some .free from hy) with z | z
      · exact absurd rfl (S.own _ (PySem.mem_of_lookup z)).2
      · have ey : y = n := S.free _ (PySem.mem_of_lookup z) rfl
        exact ⟨c, ey ▸ self⟩
    · have e1 : [n][i]? = some y := e1
      have hi : i = 0 := by have := (List.getElem?_eq_some_iff.mp e1).1; simp at this; exact this
      subst hi
      cases e1
      cases e2
      exact ⟨u, rv, .inr ⟨.inr S.has, c, self, cell1⟩⟩
  refine PySem.W.kla_codeExpr (wpAny_mono (ht.run [] _ [some v] H Q I hq) (fun z s' hs => ?_) fun e s' hs => hs)
  obtain ⟨w', H', J, r', q⟩ := hs
  exact ⟨w', H', J.os, J.bare, J.base, J.hok, r', q⟩
end L2
/-! such a lambda called where it refuses -/
namespace L2
open PySem PySem.Spec PyProof.Rows LamX
/-- it refuses what G tells -/
structure LamRefG (P : Program) (w : World) (K : PySem.W.Frag) (mg : Str → Option Value) (base : Heap) (k : Nat) (d : LamD) (n : Str) (G : V → Hp → XK → Prop) : Prop where
  run : ∀ (A : Around) (outer : List Env) (s : Shared) (H : Hp) (Q : VK) (E : XK) (f c' c : Addr) (u : Value) (v : V), Room k A → Env0 P w K mg base A outer s H → H f = some (LamVC f c' d n c) → H c' = some (CodeO c' d.q) → H c = some (CellO c u) → RelV v u → G v H E →
    codeAny (model P w) A (.call (.ref f) ⟨[], []⟩) (CR (L2N.CX P w) outer P w H s Q E) s
theorem lamRef_of {P : Program} {w : World} {K : PySem.W.Frag} {mg : Str → Option Value} {base : Heap} {k : Nat} {d : LamD} {n : Str} {G : V → Hp → XK → Prop} (S : LamSC d.sc n) (hbind : ∀ (cl : List (Str × Addr)) (pm cv ct : Value), bindArgs (PySem.W.kla_fn "<lambda>" d.q d.ar d.b d.sc cl pm cv ct) ⟨[], []⟩ = pure [])
    (mG : ∀ (v : V) (H : Hp) (E : XK) (c : Addr) (φ : Heap → Prop), H c = some (.ext φ) → G v H E → G v (Evl.less H c) (fun cls d H' => H' c = none → E cls d (upd H' c (.ext φ))))
    (hb : ∀ (A : Around) (outer : List Env) (s : Shared) (H : Hp) (v : V) (Q : VK) (E : XK) (f c' c : Addr), Room k (A.deeper (PySem.W.envX d.q d.sc s.heap.objs.size f (.ref c') [(n, c)])) → G v H E → ∃ t, PE (cxC P w K mg base d n c f c' A outer s H E) d.b t ∧ t [some v] H Q) : LamRefG P w K mg base (k + 1) d n G :=
  ⟨fun A outer s H Q E f c' c u v hr e0 hf hc hcell rv g => by
    obtain ⟨⟨pm, ct, e1⟩, _, _⟩ := e0.hok f _ hf
    obtain ⟨⟨oc, vs', t, e2, e3, e4⟩, _, _⟩ := e0.hok c' _ hc
    obtain ⟨e5, _, _⟩ := e0.hok c _ hcell
    exact call_less e0 hcell (lamC_run e1 ⟨c', oc, vs', t, rfl, e2, e3, e4⟩ e5 rv less_none S (hbind _ _ _ _) hr (env_less e0 hcell) fun hr2 => hb A outer s (Evl.less H c) v _ _ f c' c hr2 (mG v H E c _ hcell g))⟩
/-- the i-th slot holds such a lambda -/
def tAskC (i : Nat) (L : LamD → Prop) (n : Str) (G : V → Hp → XK → Prop) (Es : St → XK) : TE := fun σ H _ => ∃ f c' c d u v, σ[i]? = some (some (.ref f)) ∧ L d ∧ H f = some (LamVC f c' d n c) ∧ H c' = some (CodeO c' d.q) ∧ H c = some (CellO c u) ∧ RelV v u ∧ G v H (Es σ)
theorem pe_askC {X : Cx} {k i : Nat} {L : LamD → Prop} {n : Str} {G : V → Hp → XK → Prop} {W : WX} {x : Str} {p pos : Pos} (B : ∀ d, L d → LamRefG X.prog X.w X.K X.mg X.base k d n G) (hr : Room k X.A) (hN : X.N[i]? = some x) (hv : Vis X.env.scope x) (tk : L2N.Takes X W)
    (hd : (x == ("__debug__" : Str)) = false := by decide) (hc : (x == ("__classdict__" : Str)) = false := by decide) : PE X (.Call (.Name x p) [] [] pos) (tAskC i L n G (WE W)) := by
  refine ⟨fun pins s σ H Q I ⟨f, c', c, d, u, v, hs, hL, hf, hcd, hcell, rv, g⟩ => ?_⟩
  have V1 := (pe_var (pos := p) hN hv hd hc).run pins s σ H (fun v H1 => v = .ref f ∧ H1 = H) I ⟨.ref f, hs, rfl, rfl⟩
  refine wpAny_Call_Name_kw (thn V1 fun z s1 hq => ?_)
  obtain ⟨z', H1, I1, r1, rfl, rfl⟩ := hq
  cases r1
  obtain ⟨⟨pm, ct, e⟩, _, _⟩ := I1.hok f _ hf
  refine PySem.W.callWith_F0 ⟨_, _, _, _, e⟩ (wpAny_call (codeAny_mono ((B d hL).run X.A X.stack s1 H1 Q (WE W σ) f c' c u v hr I1.env0 hf hcd hcell rv g) fun r s' hq => ?_))
  cases r with
  | error e => exact L2N.passAt tk σ pins H1 s1 e s' I1 hq
  | ok fl => cases fl with
    | ret u => exact I1.after hq
    | next => exact False.elim hq
    | brk => exact False.elim hq
    | cont => exact False.elim hq
end L2
namespace Evl
open PySem L2 Ch
/-- l.append(e), e told as it runs -/
theorem app_raw {K : PySem.W.Frag} {σ : L2.St} {H : Hp} {te : TE} {D : Ends} {i : Nat} {l : Addr} {xs : List V} (hi : σ[i]? = some (some (.ref l))) (hl : H l = some (.lst xs)) (h : te σ H fun v H2 => rAppend (V.ref l) [v] H2 fun _ H3 => D.nx σ H3) : tDrop (tBM K "list" rAppend (tVar i) (tCons te tNil)) D σ H :=
  ⟨.ref l, hi, Or.inl ⟨rfl, xs, sq_of hl⟩, h⟩
end Evl
namespace Cw
open PySem PySem.Spec PyProof.Rows L2 Evl Ch
def topS (i : Nat) : Stmt := PySem.Challenge.pw_cardheaps_k08_one_reason.main.body.getD i (.Pass ⟨0, 0, 0, 0⟩)
structure Tx (mg : Str → Option Value) : Prop where
  c_MOST_CARDS : ∃ t, mg "MOST_CARDS" = some (.int 400 t)
  c_MOST_COUNTED : ∃ t, mg "MOST_COUNTED" = some (.int 100000 t)
  b_ValueError : mg "ValueError" = none
  b_abs : mg "abs" = none
  b_all : mg "all" = none
  b_any : mg "any" = none
  b_bool : mg "bool" = none
  b_enumerate : mg "enumerate" = none
  b_int : mg "int" = none
  b_isinstance : mg "isinstance" = none
  b_len : mg "len" = none
  b_list : mg "list" = none
  b_range : mg "range" = none
  b_set : mg "set" = none
  b_sorted : mg "sorted" = none
  b_str : mg "str" = none
  b_sum : mg "sum" = none
  b_tuple : mg "tuple" = none
abbrev s_is_number : Stmt := topS 8
abbrev N_is_number : List Str := ["thing", "least"]
theorem sc_is_number : FnScope N_is_number ["thing", "least"] (defScope s_is_number) := ⟨rfl, rfl, rfl, by decide +kernel, rfl, by decide +kernel, by decide +kernel⟩
abbrev s_check_heaps : Stmt := topS 9
abbrev N_check_heaps : List Str := ["heaps", "cards", "at"]
theorem sc_check_heaps : FnScope N_check_heaps ["heaps"] (defScope s_check_heaps) := ⟨rfl, rfl, rfl, by decide +kernel, rfl, by decide +kernel, by decide +kernel⟩
abbrev s_turn_of : Stmt := topS 10
abbrev N_turn_of : List Str := ["heaps", "left", "cards"]
theorem sc_turn_of : FnScope N_turn_of ["heaps"] (defScope s_turn_of) := ⟨rfl, rfl, rfl, by decide +kernel, rfl, by decide +kernel, by decide +kernel⟩
abbrev s_turned : Stmt := topS 11
abbrev N_turned : List Str := ["heaps"]
theorem sc_turned : FnScope N_turned ["heaps"] (defScope s_turned) := ⟨rfl, rfl, rfl, by decide +kernel, rfl, by decide +kernel, by decide +kernel⟩
abbrev s_stairs_of : Stmt := topS 12
abbrev N_stairs_of : List Str := ["cards", "found"]
theorem sc_stairs_of : FnScope N_stairs_of ["cards"] (defScope s_stairs_of) := ⟨rfl, rfl, rfl, by decide +kernel, rfl, by decide +kernel, by decide +kernel⟩
abbrev s_marks_of : Stmt := topS 13
abbrev N_marks_of : List Str := ["heaps", "stairs", "signs", "at", "cards"]
theorem sc_marks_of : FnScope N_marks_of ["heaps"] (defScope s_marks_of) := ⟨rfl, rfl, rfl, by decide +kernel, rfl, by decide +kernel, by decide +kernel⟩
abbrev s_standing : Stmt := topS 14
abbrev N_standing : List Str := ["stairs", "marks", "found", "at", "sign", "cards"]
theorem sc_standing : FnScope N_standing ["stairs", "marks"] (defScope s_standing) := ⟨rfl, rfl, rfl, by decide +kernel, rfl, by decide +kernel, by decide +kernel⟩
abbrev s_behind : Stmt := topS 15
abbrev N_behind : List Str := ["heaps", "turns", "now", "marks", "at"]
theorem sc_behind : FnScope N_behind ["heaps", "turns"] (defScope s_behind) := ⟨rfl, rfl, rfl, by decide +kernel, rfl, by decide +kernel, by decide +kernel⟩
abbrev s_ahead : Stmt := topS 16
abbrev N_ahead : List Str := ["heaps", "found", "at", "cards", "others", "other"]
theorem sc_ahead : FnScope N_ahead ["heaps"] (defScope s_ahead) := ⟨rfl, rfl, rfl, by decide +kernel, rfl, by decide +kernel, by decide +kernel⟩
abbrev s_turns_to : Stmt := topS 21
abbrev N_turns_to : List Str := ["heaps", "now", "found"]
theorem sc_turns_to : FnScope N_turns_to ["heaps"] (defScope s_turns_to) := ⟨rfl, rfl, rfl, by decide +kernel, rfl, by decide +kernel, by decide +kernel⟩
abbrev s_told : Stmt := topS 24
abbrev N_told : List Str := ["heaps", "marks"]
theorem sc_told : FnScope N_told ["heaps"] (defScope s_told) := ⟨rfl, rfl, rfl, by decide +kernel, rfl, by decide +kernel, by decide +kernel⟩
abbrev s_heaps_of : Stmt := topS 25
abbrev N_heaps_of : List Str := ["stairs", "marks", "sign"]
theorem sc_heaps_of : FnScope N_heaps_of ["stairs", "marks"] (defScope s_heaps_of) := ⟨rfl, rfl, rfl, by decide +kernel, rfl, by decide +kernel, by decide +kernel⟩
abbrev s_length : Stmt := topS 26
abbrev N_length : List Str := ["heaps", "now", "turn", "marks", "found"]
theorem sc_length : FnScope N_length ["heaps"] (defScope s_length) := ⟨rfl, rfl, rfl, by decide +kernel, rfl, by decide +kernel, by decide +kernel⟩
abbrev s_common : Stmt := topS 27
abbrev N_common : List Str := ["one", "other"]
theorem sc_common : FnScope N_common ["one", "other"] (defScope s_common) := ⟨rfl, rfl, rfl, by decide +kernel, rfl, by decide +kernel, by decide +kernel⟩
abbrev s_picks : Stmt := topS 28
abbrev N_picks : List Str := ["many", "some", "found", "turn"]
theorem sc_picks : FnScope N_picks ["many", "some"] (defScope s_picks) := ⟨rfl, rfl, rfl, by decide +kernel, rfl, by decide +kernel, by decide +kernel⟩
abbrev s_rounds : Stmt := topS 29
abbrev N_rounds : List Str := ["cards", "stairs", "many", "some", "total", "step", "parts"]
theorem sc_rounds : FnScope N_rounds ["cards"] (defScope s_rounds) := ⟨rfl, rfl, rfl, by decide +kernel, rfl, by decide +kernel, by decide +kernel⟩
abbrev s__law_refused : Stmt := topS 31
abbrev N__law_refused : List Str := ["_law_ask", "_law_due", "_law_found", "error", "_law_one"]
theorem sc__law_refused : FnScope N__law_refused ["_law_ask", "_law_due"] (defScope s__law_refused) := ⟨rfl, rfl, rfl, by decide +kernel, rfl, by decide +kernel, by decide +kernel⟩
abbrev s__law_sound : Stmt := topS 32
abbrev N__law_sound : List Str := ["_law_thing", "_law_waiting", "_law_one"]
theorem sc__law_sound : FnScope N__law_sound ["_law_thing"] (defScope s__law_sound) := ⟨rfl, rfl, rfl, by decide +kernel, rfl, by decide +kernel, by decide +kernel⟩
abbrev s__law_spoiled : Stmt := topS 33
abbrev N__law_spoiled : List Str := ["_law_good", "_law_more", "_law_odd", "_law_found", "_law_at", "_law_bad"]
theorem sc__law_spoiled : FnScope N__law_spoiled ["_law_good", "_law_more", "_law_odd"] (defScope s__law_spoiled) := ⟨rfl, rfl, rfl, by decide +kernel, rfl, by decide +kernel, by decide +kernel⟩
abbrev s__law_doors : Stmt := topS 34
abbrev N__law_doors : List Str := ["_law_heaps", "_law_asks"]
theorem sc__law_doors : FnScope N__law_doors ["_law_heaps"] (defScope s__law_doors) := ⟨rfl, rfl, rfl, by decide +kernel, rfl, by decide +kernel, by decide +kernel⟩
abbrev s__law_bad_right : Stmt := topS 35
abbrev N__law_bad_right : List Str := ["_law_more", "_law_good", "_law_rows", "_law_at", "_law_heaps", "_law_ask", "_law_spot", "_law_sign", "_law_marks", "_law_stairs", "_law_turns", "_law_cards"]
theorem sc__law_bad_right : FnScope N__law_bad_right ["_law_more"] (defScope s__law_bad_right) := ⟨rfl, rfl, rfl, by decide +kernel, rfl, by decide +kernel, by decide +kernel⟩
abbrev s__law_told_right : Stmt := topS 36
abbrev N__law_told_right : List Str := ["_law_mine", "_law_first", "_law_some", "_law_heaps"]
theorem sc__law_told_right : FnScope N__law_told_right ["_law_mine", "_law_first"] (defScope s__law_told_right) := ⟨rfl, rfl, rfl, by decide +kernel, rfl, by decide +kernel, by decide +kernel⟩
abbrev s__law_changed_right : Stmt := topS 37
abbrev N__law_changed_right : List Str := ["_law_mine", "_law_first", "_law_second"]
theorem sc__law_changed_right : FnScope N__law_changed_right [] (defScope s__law_changed_right) := ⟨rfl, rfl, rfl, by decide +kernel, rfl, by decide +kernel, by decide +kernel⟩
abbrev s__law_hand_right : Stmt := topS 38
abbrev N__law_hand_right : List Str := ["_law_rows", "_law_made", "_law_heaps", "_law_due", "_law_cards"]
theorem sc__law_hand_right : FnScope N__law_hand_right [] (defScope s__law_hand_right) := ⟨rfl, rfl, rfl, by decide +kernel, rfl, by decide +kernel, by decide +kernel⟩
abbrev s_law : Stmt := topS 39
abbrev N_law : List Str := ["_law_script", "_law_more", "_law_great", "_law_turn"]
theorem sc_law : FnScope N_law ["_law_script"] (defScope s_law) := ⟨rfl, rfl, rfl, by decide +kernel, rfl, by decide +kernel, by decide +kernel⟩
abbrev s_Round___init__ : Stmt := inClass (topS 19) 0
abbrev N_Round___init__ : List Str := ["self", "stairs", "marks"]
theorem sc_Round___init__ : FnScope N_Round___init__ ["self", "stairs", "marks"] (defScope s_Round___init__) := ⟨rfl, rfl, rfl, by decide +kernel, rfl, by decide +kernel, by decide +kernel⟩
abbrev s_Round_shows : Stmt := inClass (topS 19) 1
abbrev N_Round_shows : List Str := ["self", "heaps", "marks"]
theorem sc_Round_shows : FnScope N_Round_shows ["self", "heaps"] (defScope s_Round_shows) := ⟨rfl, rfl, rfl, by decide +kernel, rfl, by decide +kernel, by decide +kernel⟩
abbrev s_Straight___init__ : Stmt := inClass (topS 20) 0
abbrev N_Straight___init__ : List Str := ["self", "turns"]
theorem sc_Straight___init__ : FnScope N_Straight___init__ ["self", "turns"] (defScope s_Straight___init__) := ⟨rfl, rfl, rfl, by decide +kernel, rfl, by decide +kernel, by decide +kernel⟩
abbrev s_Straight_shows : Stmt := inClass (topS 20) 1
abbrev N_Straight_shows : List Str := ["self", "heaps"]
theorem sc_Straight_shows : FnScope N_Straight_shows ["self", "heaps"] (defScope s_Straight_shows) := ⟨rfl, rfl, rfl, by decide +kernel, rfl, by decide +kernel, by decide +kernel⟩
end Cw
namespace Cw
open PySem PySem.Spec PyProof.Rows L2 Evl Ch
local macro_rules | `(tactic| walk_at "cond") => `(tactic| first | omega | decide | (show _ ∧ _; constructor <;> first | omega | decide) | (show _ ∨ _; first | (left; constructor <;> omega) | (right; constructor <;> omega)) | (show _ ∧ _ ∧ _; refine ⟨?_, ?_, ?_⟩ <;> first | omega | decide))
local macro_rules | `(tactic| walk_at "ev") => `(tactic| first | ((with_reducible apply ev_var); rfl) | (with_reducible exact ev_c) | ((with_reducible apply ev_opI0) <;> walk_at "ev") | ((with_reducible apply ev_opI); walk_at "ev"; walk_at "ev"; walk_at "cond") | ((with_reducible apply ev_eqS); walk_at "ev"; walk_at "ev"; rfl) | ((with_reducible apply ev_neS); walk_at "ev"; walk_at "ev"; rfl) | ((with_reducible apply ev_isi); walk_at "ev"; walk_at "ev"; (first | exact ty_int | exact ty_bl | exact ty_str | exact ty_lst (by assumption)); (first | exact kit_ty (r := true) (by decide +kernel) | exact kit_ty (r := false) (by decide +kernel))) | ((with_reducible apply ev_notV); walk_at "ev") | ((with_reducible apply ev_sum); walk_at "ev"; exact sq_of (by assumption)) | (apply ev_len; walk_at "ev"; exact sq_of (by assumption)))
local macro_rules | `(tactic| walk_at "et") => `(tactic| first | ((with_reducible apply et_test); walk_at "ev") | ((with_reducible apply et_B); walk_at "ev") | ((with_reducible apply et_not); walk_at "et"))
section
variable {P : Program} {w : World} {K : PySem.W.Frag} {mg : Str → Option Value} {base : Heap}
def numV (v : V) (m : Int) : Bool := match v with
  | .int n => decide (m ≤ n)
  | _ => false
def sp_is_number : Sp := fun vs H Q _ => ∃ (v : V) (ty : String) (m : Int), vs = [v, .int m] ∧ ThV H v ty ∧ RetV (.bl (numV v m)) H Q
theorem spv_is_number {v : V} {ty : String} {m : Int} {H : Hp} (h : ThV H v ty) : SpV sp_is_number [v, .int m] H (.bl (numV v m)) := fun H1 e Q q E => ⟨v, ty, m, rfl, h.mono e, q⟩
theorem ok_is_number {f : Addr} {fd : FuncData} (T : Tx mg) (F : Fun K "is_number" "is_number" s_is_number f fd) : FnOk P w K mg base CX0 1 f fd ["thing", "least"] sp_is_number := by
  refine F.ok sc_is_number (fun vs H Q E h => ?_) (fun cdv A outer s H vs Q E hr h => ?_)
  · obtain ⟨_, _, _, rfl, _⟩ := h
    rfl
  · obtain ⟨v, ty, m, rfl, h, q⟩ := h
    refine ⟨_, (pss_one (ps_ret (pe_and (pe_callB (r := rIsi K) call_isi (by rfl) T.b_isinstance (by decide +kernel) (pa_cons (pv 0) (pa_cons (pe_bltn (v := .ty "int") (by rfl) T.b_int (by decide +kernel) rfl) pa_nil))) (pe_and (pe_not (pe_callB (r := rIsi K) call_isi (by rfl) T.b_isinstance (by decide +kernel) (pa_cons (pv 0) (pa_cons (pe_bltn (v := .ty "bool") (by rfl) T.b_bool (by decide +kernel) rfl) pa_nil)))) (pe_one (pe_cmpR op_ge (pv 0) (pv 1) (nomark _))))))), ?_⟩
    refine s_ret (ev_bl (b' := numV v m) (ev_andV (b := !subT ty "bool" && numV v m) (ev_isiT (ev_var rfl) ev_c h (.inl rfl)) fun h1 => ev_andV (b := numV v m) (ev_notV (ev_isiT (ev_var rfl) ev_c h (.inr (.inl rfl)))) fun h2 => ?_) ?_) fun H1 e1 => q H1 e1
    · cases h with
      | int i => exact ev_opI0 (g := fun i j => .bl (decide (j ≤ i))) (ev_var rfl) (ev_var rfl)
      | _ => first | exact absurd h1 (by decide) | exact absurd h2 (by decide)
    · cases h <;> simp [subT, numV]
end
end Cw
namespace Cw
open PySem PySem.Spec PyProof.Rows L2 Evl Ch
local macro_rules | `(tactic| walk_at "cond") => `(tactic| first | omega | decide | (show _ ∧ _; constructor <;> first | omega | decide) | (show _ ∨ _; first | (left; constructor <;> omega) | (right; constructor <;> omega)) | (show _ ∧ _ ∧ _; refine ⟨?_, ?_, ?_⟩ <;> first | omega | decide))
local macro_rules | `(tactic| walk_at "ev") => `(tactic| first | ((with_reducible apply ev_var); rfl) | (with_reducible exact ev_c) | ((with_reducible apply ev_opI0) <;> walk_at "ev") | ((with_reducible apply ev_opI); walk_at "ev"; walk_at "ev"; walk_at "cond") | ((with_reducible apply ev_eqS); walk_at "ev"; walk_at "ev"; rfl) | ((with_reducible apply ev_neS); walk_at "ev"; walk_at "ev"; rfl) | ((with_reducible apply ev_isi); walk_at "ev"; walk_at "ev"; (first | exact ty_int | exact ty_bl | exact ty_str | exact ty_lst (by assumption)); (first | exact kit_ty (r := true) (by decide +kernel) | exact kit_ty (r := false) (by decide +kernel))) | ((with_reducible apply ev_notV); walk_at "ev") | ((with_reducible apply ev_sum); walk_at "ev"; exact sq_of (by assumption)) | (apply ev_len; walk_at "ev"; exact sq_of (by assumption)))
local macro_rules | `(tactic| walk_at "et") => `(tactic| first | ((with_reducible apply et_test); walk_at "ev") | ((with_reducible apply et_B); walk_at "ev") | ((with_reducible apply et_not); walk_at "et"))
section
variable {P : Program} {w : World} {K : PySem.W.Frag} {mg : Str → Option Value} {base : Heap}
/-- what are no heaps -/
inductive BadH (v : V) (H : Hp) : Prop where
  | type {ty : String} (h : ThV H v ty) (n : ty ≠ "list")
  | item {a : Addr} {xs : List V} (e : v = .ref a) (h : H a = some (.lst xs)) (hl : xs.length ≤ 20000) (ht : ∀ x ∈ xs, ∃ ty, ThV H x ty) (hb : ∃ x ∈ xs, numV x 1 = false)
  | sums {a : Addr} {zs : List Int} (e : v = .ref a) (h : H a = some (.lst (zs.map V.int))) (hl : zs.length ≤ 20000) (hp : ∀ z ∈ zs, 1 ≤ z) (hb : 400 < zs.sum ∨ ∃ i, i + 1 < zs.length ∧ zs[i]?.getD 0 < zs[i + 1]?.getD 0)
theorem BadH.mono {v : V} {H H' : Hp} (h : BadH v H) (e : Ex H H') : BadH v H' := by
  cases h with
  | type h n => exact .type (h.mono e) n
  | item e1 h hl ht hb => exact .item e1 (e _ _ h) hl (fun x hx => let ⟨ty, q⟩ := ht x hx; ⟨ty, q.mono e⟩) hb
  | sums e1 h hl hp hb => exact .sums e1 (e _ _ h) hl hp hb
/-- the way out -/
def Out (C : Addr) (H : Hp) (E : XK) : Prop := ∀ H', Ex H H' → E (.ref C) none H'
def sp_check_heaps (BH : Addr) : Sp := fun vs H Q E => ∃ v, vs = [v] ∧ ((∃ (a : Addr) (ns : List Nat), v = .ref a ∧ H a = some (.lst (LI ns)) ∧ Hs ns ∧ RetV .non H Q) ∨ (BadH v H ∧ Out BH H E))
theorem ok_check_heaps {f : Addr} {fd : FuncData} {BH : Addr} (T : Tx mg) (x_BadHeaps : Exn K mg "BadHeaps" BH) (F : Fun K "check_heaps" "check_heaps" s_check_heaps f fd) (c_is_number : Cal P w K mg base 1 "is_number" sp_is_number) : FnOk P w K mg base (L2N.CX P w) 2 f fd ["heaps"] (sp_check_heaps BH) := by
  refine F.okN sc_check_heaps (fun vs H Q E h => ?_) (fun cdv A outer s H vs Q E hr h => ?_)
  · obtain ⟨_, rfl, _⟩ := h
    rfl
  · obtain ⟨v, rfl, h⟩ := h
    refine ⟨_, (pss_cons (ps_if (PW.pt (pw_or (pt_not (pt_val (pe_callB (r := rIsi K) call_isi (by rfl) T.b_isinstance (by decide +kernel) (pa_cons (pv 0) (pa_cons (pe_bltn (v := .ty "list") (by rfl) T.b_list (by decide +kernel) rfl) pa_nil))))) (pw_or1 (pt_not (pt_val (pe_callB (r := rAll K) (cr_all rfl) (by rfl) T.b_all (by decide +kernel) (pa_cons (pe_lc (own := [("cards", 1)]) (by rfl) sc_check_heaps.nd (pi_list (pv 0)) (blkOk_by (N := N_check_heaps) (sc := defScope s_check_heaps) (by decide +kernel)) (fun _ _ _ _ _ => (pg_name (i := 1) sc_check_heaps.nd rfl (Or.inl rfl))) (fun _ _ _ _ _ => pts_nil) (fun _ _ _ _ _ => (pe_c c_is_number hr (by decide) (by rfl) (pa_cons (pv 1) (pa_cons pe_int pa_nil))))) pa_nil))))))) (pss_one (ps_refuse rfl (L2N.takes_of rfl rfl rfl rfl) x_BadHeaps (by rfl))) pss_nil)
      (pss_one (ps_if (PW.pt (pw_or (pt_cmpR op_gt (pe_callB (r := rSum K) (cr_sum rfl) (by rfl) T.b_sum (by decide +kernel) (pa_cons (pv 0) pa_nil)) (pe_gi (by rfl) T.c_MOST_CARDS) (nomark _)) (pw_or1 (pt_val (pe_callB (r := rAny K) (cr_any rfl) (by rfl) T.b_any (by decide +kernel) (pa_cons (pe_lc (own := [("at", 2)]) (by rfl) sc_check_heaps.nd (pi_range2 (by rfl) T.b_range (pa_cons pe_int (pa_cons (pe_callB (r := rLenS K) call_len_seq (by rfl) T.b_len PySem.boot_len (pa_cons (pv 0) pa_nil)) pa_nil))) (blkOk_by (N := N_check_heaps) (sc := defScope s_check_heaps) (by decide +kernel)) (fun _ _ _ _ _ => (pg_name (i := 2) sc_check_heaps.nd rfl (Or.inl rfl))) (fun _ _ _ _ _ => pts_nil) (fun _ _ _ _ _ => (pe_cmpR op_gt (pe_ix (r := rIxL K) ix_list (pv 0) (pv 2) (fun _ _ => rfl)) (pe_ix (r := rIxL K) ix_list (pv 0) (pe_op op_sub (pv 2) pe_int) (fun _ _ => rfl)) (nomark _)))) pa_nil)))))) (pss_one (ps_refuse rfl (L2N.takes_of rfl rfl rfl rfl) x_BadHeaps (by rfl))) pss_nil))), ?_⟩
    have key : (∃ (a : Addr) (zs : List Int), v = .ref a ∧ H a = some (.lst (zs.map V.int)) ∧ zs.length ≤ 20000 ∧ (∀ z ∈ zs, 1 ≤ z) ∧ ∃ bad : Bool, bad = (decide (400 < zs.sum) || (List.range (zs.length - 1)).any fun i => decide (zs[i]?.getD 0 < zs[i + 1]?.getD 0)) ∧ (bad = true → Out BH H E) ∧ (bad = false → RetV .non H Q)) ∨ (Out BH H E ∧ ((∃ ty, ThV H v ty ∧ ty ≠ "list") ∨ ∃ (a : Addr) (xs : List V), v = .ref a ∧ H a = some (.lst xs) ∧ xs.length ≤ 20000 ∧ (∀ x ∈ xs, ∃ ty, ThV H x ty) ∧ ∃ x ∈ xs, numV x 1 = false)) := by
      rcases h with ⟨a, ns, rfl, ha, hs, q⟩ | ⟨hb, q⟩
      · refine .inl ⟨a, cl ns, rfl, ha, by rw [cl_len]; have := hs.len; omega, fun z hz => ?_, false, ?_, (fun z => nomatch z), fun _ => q⟩
        · obtain ⟨n, hn, rfl⟩ := cl_mem hz
          have := hs.pos n hn
          omega
        · rw [cl_sum]
          have h1 : decide ((400 : Int) < (ns.sum : Int)) = false := decide_eq_false (by have := hs.sm; omega)
          rw [h1, Bool.false_or]
          refine (List.any_eq_false.mpr fun i hi => ?_).symm
          rw [List.mem_range, cl_len] at hi
          have h1 : i < ns.length := by omega
          have h2 : i + 1 < ns.length := by omega
          rw [cl_get (List.getElem?_eq_getElem h1), cl_get (List.getElem?_eq_getElem h2)]
          have := List.pairwise_iff_getElem.mp hs.srt i (i + 1) h1 h2 (by omega)
          simp only [Option.getD_some, decide_eq_true_eq]
          omega
      · cases hb with
        | type h n => exact .inr ⟨q, .inl ⟨_, h, n⟩⟩
        | item e h hl ht hb => exact .inr ⟨q, .inr ⟨_, _, e, h, hl, ht, hb⟩⟩
        | sums e h hl hp hb =>
          rename_i a zs
          refine .inl ⟨a, zs, e, h, hl, hp, true, ?_, (fun _ => q), fun z => nomatch z⟩
          rcases hb with h | ⟨i, hi, h⟩
          · rw [decide_eq_true h]; rfl
          · rw [show ((List.range (zs.length - 1)).any fun i => decide (zs[i]?.getD 0 < zs[i + 1]?.getD 0)) = true from List.any_eq_true.mpr ⟨i, List.mem_range.mpr (by omega), decide_eq_true h⟩, Bool.or_true]
    rcases key with ⟨a, zs, rfl, ha, hl, hp, bad, hbad, h1, h2⟩ | ⟨q, ⟨ty, hty, hn⟩ | ⟨a, xs, rfl, ha, hl, ht, x, hx, hb⟩⟩
    · refine q_when (b := false) (et_is (et_or (et_not (et_B (b := true) (ev_isi (ev_var rfl) ev_c (ty_lst ha) (kit_ty (r := true) (by decide +kernel))))) fun _ => et_not (et_B (ev_allM (inj := V.int) (ys := zs) (fun n => decide (1 ≤ n)) (ev_var rfl) (sq_of ha) (by omega) (fun x => rfl) fun y H1 e hy => ev_call (ea_cons (ev_var rfl) (ea_cons ev_c ea_nil)) (spv_is_number (.int y))))) ?_) (fun h => nomatch h) fun _ H1 e1 => ?_
      · have : zs.all (fun n => decide (1 ≤ n)) = true := List.all_eq_true.mpr fun z hz => decide_eq_true (hp z hz)
        rw [this]; rfl
      · have ha1 := e1 a _ ha
        refine s_when (b := bad) (et_is (et_or (et_test (ev_opI0 (ev_sum (ev_var rfl) (sq_of ha1)) ev_c)) fun _ => et_B (ev_anyR2 (fun i => decide (zs[i]?.getD 0 < zs[i + 1]?.getD 0)) (ea_cons ev_c (ea_cons (ev_len (ev_var rfl) (sq_of ha1)) ea_nil)) (by rw [List.length_map]; omega) (fun x => rfl) fun i H2 e2 hi => ?_)) ?_) (fun h H2 e2 => ?_) fun h H2 e2 => h2 h H2 (e1.trans e2)
        · rw [List.length_map] at hi
          have q1 : i < zs.length := by omega
          have q2 : i + 1 < zs.length := by omega
          have g1 : (zs.map V.int)[i]? = some (.int (zs[i]?.getD 0)) := by rw [List.getElem?_map, List.getElem?_eq_getElem q1]; rfl
          have g2 : (zs.map V.int)[i + 1]? = some (.int (zs[i + 1]?.getD 0)) := by rw [List.getElem?_map, List.getElem?_eq_getElem q2]; rfl
          exact ev_opI0 (g := fun i j => .bl (decide (j < i))) (ev_ixLv (ev_var rfl) (ev_var rfl) (sq_of (e2 a _ ha1)) (at_of (by omega) g2)) (ev_ixLv (ev_var rfl) (ev_opI0 (ev_var rfl) ev_c) (sq_of (e2 a _ ha1)) (at_of (by omega) g1))
        · rw [hbad, List.length_map]
          have : ((zs.length : Int) - 1).toNat = zs.length - 1 := by omega
          rw [this]
        · exact h1 h H2 (e1.trans e2)
    · have hf : subT ty "list" = false := by cases hty <;> first | rfl | exact absurd rfl hn
      refine q_when (b := true) (et_is (et_or (b := false) (et_not (et_B (ev_isiT (ev_var rfl) ev_c hty (.inr (.inr (.inl rfl)))))) fun h0 => ?_) ?_) (fun _ H1 e1 => q H1 e1) fun h => nomatch h
      · rw [hf] at h0
        cases h0
      · rw [hf]; rfl
    · refine q_when (b := true) (et_is (et_or (et_not (et_B (b := true) (ev_isi (ev_var rfl) ev_c (ty_lst ha) (kit_ty (r := true) (by decide +kernel))))) fun _ => et_not (et_B (ev_allM (inj := fun x : V => x) (ys := xs) (fun x => numV x 1) (ev_var rfl) (by rw [List.map_id']; exact sq_of ha) (by omega) (fun x => rfl) fun y H1 e hy => ev_call (ea_cons (ev_var rfl) (ea_cons ev_c ea_nil)) (let ⟨ty, hy⟩ := ht y hy; spv_is_number (hy.mono e))))) ?_) (fun _ H1 e1 => q H1 e1) fun h => nomatch h
      have : xs.all (fun x => numV x 1) = false := List.all_eq_false.mpr ⟨x, hx, by rw [hb]; decide⟩
      rw [this]; rfl
end
end Cw
namespace Cw
open PySem PySem.Spec PyProof.Rows L2 Evl Ch
local macro_rules | `(tactic| walk_at "cond") => `(tactic| first | omega | decide | (show _ ∧ _; constructor <;> first | omega | decide) | (show _ ∨ _; first | (left; constructor <;> omega) | (right; constructor <;> omega)) | (show _ ∧ _ ∧ _; refine ⟨?_, ?_, ?_⟩ <;> first | omega | decide))
local macro_rules | `(tactic| walk_at "ev") => `(tactic| first | ((with_reducible apply ev_var); rfl) | (with_reducible exact ev_c) | ((with_reducible apply ev_opI0) <;> walk_at "ev") | ((with_reducible apply ev_opI); walk_at "ev"; walk_at "ev"; walk_at "cond") | ((with_reducible apply ev_eqS); walk_at "ev"; walk_at "ev"; rfl) | ((with_reducible apply ev_neS); walk_at "ev"; walk_at "ev"; rfl) | ((with_reducible apply ev_isi); walk_at "ev"; walk_at "ev"; (first | exact ty_int | exact ty_bl | exact ty_str | exact ty_lst (by assumption)); (first | exact kit_ty (r := true) (by decide +kernel) | exact kit_ty (r := false) (by decide +kernel))) | ((with_reducible apply ev_notV); walk_at "ev") | ((with_reducible apply ev_sum); walk_at "ev"; exact sq_of (by assumption)) | (apply ev_len; walk_at "ev"; exact sq_of (by assumption)))
local macro_rules | `(tactic| walk_at "et") => `(tactic| first | ((with_reducible apply et_test); walk_at "ev") | ((with_reducible apply et_B); walk_at "ev") | ((with_reducible apply et_not); walk_at "et"))
section
variable {P : Program} {w : World} {K : PySem.W.Frag} {mg : Str → Option Value} {base : Heap}
def sp_turn_of : Sp := fun vs H Q _ => ∃ (a : Addr) (ns : List Nat), vs = [.ref a] ∧ H a = some (.lst (LI ns)) ∧ Hs ns ∧ RetL (LI (turn ns)) H Q
theorem spl_turn_of {a : Addr} {ns : List Nat} {H : Hp} (h : H a = some (.lst (LI ns))) (hs : Hs ns) : SpL sp_turn_of [.ref a] H (LI (turn ns)) := fun H1 e Q q E => ⟨a, ns, rfl, e a _ h, hs, q⟩
theorem ok_turn_of {f : Addr} {fd : FuncData} (T : Tx mg) (F : Fun K "turn_of" "turn_of" s_turn_of f fd) : FnOk P w K mg base CX0 1 f fd ["heaps"] sp_turn_of := by
  refine F.ok sc_turn_of (fun vs H Q E h => ?_) (fun cdv A outer s H vs Q E hr h => ?_)
  · obtain ⟨_, _, rfl, _⟩ := h
    rfl
  · obtain ⟨a, ns, rfl, ha, hs, q⟩ := h
    refine ⟨_, (pss_cons (ps_if (pt_cmpR (r := rEqD K) (op_eqD hr.units) (pv 0) (pe_lst pa_nil) (nomark _)) (pss_one (ps_ret (pe_lst pa_nil))) pss_nil)
      (pss_cons (ps_setLc (i := 1) (own := [("cards", 2)]) (by rfl) sc_turn_of.nd rfl rfl (sw_true rfl rfl rfl (by decide +kernel)) (pi_list (pv 0)) (blkOk_by (N := N_turn_of) (sc := defScope s_turn_of) (by decide +kernel)) (fun _ _ _ _ _ => (pg_name (i := 2) sc_turn_of.nd rfl (Or.inl rfl))) (fun _ _ _ _ _ => (pts_one (pt_cmpR op_gt (pv 2) pe_int (nomark _)))) (fun _ _ _ _ _ => (pe_op op_sub (pv 2) pe_int)))
      (pss_one (ps_ret (pe_callBK (r := rSortedKw K true [.bl true]) cr_sortedRev (by rfl) T.b_sorted (by decide +kernel) (pa_cons (pe_op op_cat (pv 1) (pe_lst (pa_cons (pe_callB (r := rLenS K) call_len_seq (by rfl) T.b_len PySem.boot_len (pa_cons (pv 0) pa_nil)) pa_nil))) pa_nil) (pk_cons pe_bl pk_nil)))))), ?_⟩
    refine q_when (et_test (ev_eqI (il_v (ev_var rfl) (sq_of ha)) (il_n (ns := []) (el_lst ea_nil (by decide))))) (fun hb H1 e1 => ?_) fun hb H1 e1 => ?_
    · have e := of_decide_eq_true hb
      have e2 : ns = [] := cl_eq_nil.mp e
      subst e2
      exact s_retL (el_lst ea_nil (by decide)) fun p H2 hp e2 h2 => q.go e1 hp e2 h2
    · have hn : ns ≠ [] := fun e => of_decide_eq_false hb (by rw [e]; rfl)
      have ha1 := e1 a _ ha
      have hl := hs.len
      refine q_asgL (el_lcM (inj := V.int) (ys := cl ns) (fun n => decide (1 < n)) (fun n => V.int (n - 1)) (ev_var rfl) (sq_of ha1) (by rw [cl_len]; omega) (fun x => rfl) (fun y H2 e2 hy => et_test (ev_opI0 (ev_var rfl) ev_c)) (fun y H2 e2 hy hp => ev_opI0 (ev_var rfl) ev_c)) fun p H2 hp e2 h2 => ?_
      have hL : ((cl ns).filter fun n => decide (1 < n)).map (fun n => V.int (n - 1)) = (cl (left ns)).map V.int := by rw [cl_left, List.map_map]; rfl
      rw [hL] at h2
      have hll := left_len ns
      refine s_retL (el_sortR (ns := cl (left ns ++ [ns.length])) (ms := cl (turn ns)) ?_ (ea_cons ev_c ea_nil) (fun ns' hp' hs' => sorted_is hp' hs' (turn_perm hn) (turn_srt hs.srt))) fun p' H3 hp' e3 h3 => q.go (e1.trans e2) hp' e3 h3
      rw [cl_append, List.map_append]
      refine el_cat (ev_var rfl) h2 ?_ (by rw [List.length_map, cl_len]; simp [cl]; omega)
      have h5 : (cl [ns.length]).map V.int = [V.int (((LI ns).length : Nat) : Int)] := by rw [LI_len]; rfl
      rw [h5]
      exact el_lst (ea_cons (ev_len (ev_var rfl) (sq_of (e2 a _ ha1))) ea_nil) (of_decide_eq_true rfl)
end
end Cw
namespace Cw
open PySem PySem.Spec PyProof.Rows L2 Evl Ch
local macro_rules | `(tactic| walk_at "cond") => `(tactic| first | omega | decide | (show _ ∧ _; constructor <;> first | omega | decide) | (show _ ∨ _; first | (left; constructor <;> omega) | (right; constructor <;> omega)) | (show _ ∧ _ ∧ _; refine ⟨?_, ?_, ?_⟩ <;> first | omega | decide))
local macro_rules | `(tactic| walk_at "ev") => `(tactic| first | ((with_reducible apply ev_var); rfl) | (with_reducible exact ev_c) | ((with_reducible apply ev_opI0) <;> walk_at "ev") | ((with_reducible apply ev_opI); walk_at "ev"; walk_at "ev"; walk_at "cond") | ((with_reducible apply ev_eqS); walk_at "ev"; walk_at "ev"; rfl) | ((with_reducible apply ev_neS); walk_at "ev"; walk_at "ev"; rfl) | ((with_reducible apply ev_isi); walk_at "ev"; walk_at "ev"; (first | exact ty_int | exact ty_bl | exact ty_str | exact ty_lst (by assumption)); (first | exact kit_ty (r := true) (by decide +kernel) | exact kit_ty (r := false) (by decide +kernel))) | ((with_reducible apply ev_notV); walk_at "ev") | ((with_reducible apply ev_sum); walk_at "ev"; exact sq_of (by assumption)) | (apply ev_len; walk_at "ev"; exact sq_of (by assumption)))
local macro_rules | `(tactic| walk_at "et") => `(tactic| first | ((with_reducible apply et_test); walk_at "ev") | ((with_reducible apply et_B); walk_at "ev") | ((with_reducible apply et_not); walk_at "et"))
section
variable {P : Program} {w : World} {K : PySem.W.Frag} {mg : Str → Option Value} {base : Heap}
def sp_turned (BH : Addr) : Sp := fun vs H Q E => ∃ v, vs = [v] ∧ ((∃ (a : Addr) (ns : List Nat), v = .ref a ∧ H a = some (.lst (LI ns)) ∧ Hs ns ∧ RetL (LI (turn ns)) H Q) ∨ (BadH v H ∧ Out BH H E))
theorem ok_turned {f : Addr} {fd : FuncData} {BH : Addr} (T : Tx mg) (F : Fun K "turned" "turned" s_turned f fd) (c_check_heaps : CalX P w K mg base 2 "check_heaps" (sp_check_heaps BH)) (c_turn_of : Cal P w K mg base 1 "turn_of" sp_turn_of) : FnOk P w K mg base (L2N.CX P w) 3 f fd ["heaps"] (sp_turned BH) := by
  refine F.okN sc_turned (fun vs H Q E h => ?_) (fun cdv A outer s H vs Q E hr h => ?_)
  · obtain ⟨_, rfl, _⟩ := h
    rfl
  · obtain ⟨v, rfl, h⟩ := h
    refine ⟨_, (pss_cons (ps_expr (pe_cX c_check_heaps hr (by decide) (by rfl) (L2N.takes_of rfl rfl rfl rfl) (pa_cons (pv 0) pa_nil)))
      (PSs.nox (pss_one (ps_ret (pe_c c_turn_of hr (by decide) (by rfl) (pa_cons (pv 0) pa_nil)))))), ?_⟩
    refine q_dropS (ea_cons (ev_var rfl) ea_nil) fun H1 e1 => ⟨v, rfl, ?_⟩
    rcases h with ⟨a, ns, rfl, ha, hs, q⟩ | ⟨hb, q⟩
    · refine .inl ⟨a, ns, rfl, e1 a _ ha, hs, fun H2 e2 => ?_⟩
      exact s_retL (el_call (ea_cons (ev_var rfl) ea_nil) (spl_turn_of ((e1.trans e2) a _ ha) hs)) fun p H3 hp e3 h3 => q.go (e1.trans e2) hp e3 h3
    · exact .inr ⟨hb.mono e1, fun H2 e2 => q H2 (e1.trans e2)⟩
end
end Cw
namespace Cw
open PySem PySem.Spec PyProof.Rows L2 Evl Ch
local macro_rules | `(tactic| walk_at "cond") => `(tactic| first | omega | decide | (show _ ∧ _; constructor <;> first | omega | decide) | (show _ ∨ _; first | (left; constructor <;> omega) | (right; constructor <;> omega)) | (show _ ∧ _ ∧ _; refine ⟨?_, ?_, ?_⟩ <;> first | omega | decide))
local macro_rules | `(tactic| walk_at "ev") => `(tactic| first | ((with_reducible apply ev_var); rfl) | (with_reducible exact ev_c) | ((with_reducible apply ev_opI0) <;> walk_at "ev") | ((with_reducible apply ev_opI); walk_at "ev"; walk_at "ev"; walk_at "cond") | ((with_reducible apply ev_eqS); walk_at "ev"; walk_at "ev"; rfl) | ((with_reducible apply ev_neS); walk_at "ev"; walk_at "ev"; rfl) | ((with_reducible apply ev_isi); walk_at "ev"; walk_at "ev"; (first | exact ty_int | exact ty_bl | exact ty_str | exact ty_lst (by assumption)); (first | exact kit_ty (r := true) (by decide +kernel) | exact kit_ty (r := false) (by decide +kernel))) | ((with_reducible apply ev_notV); walk_at "ev") | ((with_reducible apply ev_sum); walk_at "ev"; exact sq_of (by assumption)) | (apply ev_len; walk_at "ev"; exact sq_of (by assumption)))
local macro_rules | `(tactic| walk_at "et") => `(tactic| first | ((with_reducible apply et_test); walk_at "ev") | ((with_reducible apply et_B); walk_at "ev") | ((with_reducible apply et_not); walk_at "et"))
section
variable {P : Program} {w : World} {K : PySem.W.Frag} {mg : Str → Option Value} {base : Heap}
def sp_stairs_of : Sp := fun vs H Q _ => ∃ (n : Nat), vs = [.int (n : Int)] ∧ n ≤ 1000000 ∧ RetV (.int (stairs n : Nat)) H Q
theorem spv_stairs_of {n : Nat} {H : Hp} (h : n ≤ 1000000) : SpV sp_stairs_of [.int (n : Int)] H (.int (stairs n : Nat)) := fun H1 e Q q E => ⟨n, rfl, h, q⟩
theorem ok_stairs_of {f : Addr} {fd : FuncData} (T : Tx mg) (F : Fun K "stairs_of" "stairs_of" s_stairs_of f fd) : FnOk P w K mg base CX0 1 f fd ["cards"] sp_stairs_of := by
  refine F.ok sc_stairs_of (fun vs H Q E h => ?_) (fun cdv A outer s H vs Q E hr h => ?_)
  · obtain ⟨_, rfl, _⟩ := h
    rfl
  · obtain ⟨n, rfl, hn, q⟩ := h
    refine ⟨_, (pss_cons (ps_set (i := 1) sc_stairs_of.nd rfl (Or.inl rfl) pe_int)
      (pss_cons (ps_while PassesOwn.never (pt_cmpR op_le (pe_op op_mul (pe_op op_add (pv 1) pe_int) (pe_op op_add (pv 1) pe_int)) (pe_op op_mul pe_int (pv 0)) (nomark _)) (pss_one (ps_aug (i := 1) sc_stairs_of.nd rfl (Or.inl rfl) pe_int ip_add)))
      (pss_one (ps_ret (pv 1))))), ?_⟩
    refine q_asg ev_c fun H1 e1 => ?_
    refine q_while (fun m σ' H' => ∃ i : Nat, σ' = [some (.int (n : Int)), some (.int (i : Int))] ∧ i * (i + 1) ≤ 2 * n ∧ 2 * n + 2 = m + i ∧ Ex H H') (2 * n + 2) ⟨0, rfl, by omega, by omega, e1⟩ fun m σ' H' hw => ?_
    obtain ⟨i, rfl, hi, hm, eH⟩ := hw
    have hil : i ≤ 2 * n := by
      have : i ≤ i * (i + 1) := Nat.le_mul_of_pos_right i (by omega)
      omega
    refine ⟨decide ((((i : Int) + 1) * ((i : Int) + 2)) ≤ 2 * (n : Int)), et_test (ev_opI0 (ev_opI (ev_opI0 (ev_var rfl) ev_c) (ev_opI0 (ev_var rfl) ev_c) (.inl ⟨by omega, by omega⟩)) (ev_opI ev_c (ev_var rfl) (.inl ⟨by decide, by decide⟩))), fun hb H2 e2 => ?_, fun hb H2 e2 => ?_⟩
    · have hb' := of_decide_eq_true hb
      have hb2 : (i + 1) * (i + 2) ≤ 2 * n := by
        have e : (((i + 1) * (i + 2) : Nat) : Int) = ((i : Int) + 1) * ((i : Int) + 2) := by push_cast; rfl
        omega
      have hi2 : i + 1 ≤ 2 * n := by
        have : i + 1 ≤ (i + 1) * (i + 2) := Nat.le_mul_of_pos_right _ (by omega)
        omega
      refine ⟨fun σ2 H3 => σ2 = [some (.int (n : Int)), some (.int ((i + 1 : Nat) : Int))] ∧ Ex H H3, fun σ2 H3 hN => ⟨m - 1, by omega, i + 1, hN.1, hb2, by omega, hN.2⟩, ?_⟩
      refine s_aug (a := (i : Int)) (b := 1) rfl ev_c fun H3 e3 => ⟨rfl, (eH.trans e2).trans e3⟩
    · have hb' := of_decide_eq_false hb
      have hb2 : 2 * n < (i + 1) * (i + 2) := by
        have e : (((i + 1) * (i + 2) : Nat) : Int) = ((i : Int) + 1) * ((i : Int) + 2) := by push_cast; rfl
        omega
      have hst : stairs n = i := (stairs_is n).one ⟨hi, hb2⟩
      rw [hst] at q
      exact s_ret (ev_var rfl) fun H3 e3 => q H3 ((eH.trans e2).trans e3)
end
end Cw
namespace Cw
open PySem PySem.Spec PyProof.Rows L2 Evl Ch
local macro_rules | `(tactic| walk_at "cond") => `(tactic| first | omega | decide | (show _ ∧ _; constructor <;> first | omega | decide) | (show _ ∨ _; first | (left; constructor <;> omega) | (right; constructor <;> omega)) | (show _ ∧ _ ∧ _; refine ⟨?_, ?_, ?_⟩ <;> first | omega | decide))
local macro_rules | `(tactic| walk_at "ev") => `(tactic| first | ((with_reducible apply ev_var); rfl) | (with_reducible exact ev_c) | ((with_reducible apply ev_opI0) <;> walk_at "ev") | ((with_reducible apply ev_opI); walk_at "ev"; walk_at "ev"; walk_at "cond") | ((with_reducible apply ev_eqS); walk_at "ev"; walk_at "ev"; rfl) | ((with_reducible apply ev_neS); walk_at "ev"; walk_at "ev"; rfl) | ((with_reducible apply ev_isi); walk_at "ev"; walk_at "ev"; (first | exact ty_int | exact ty_bl | exact ty_str | exact ty_lst (by assumption)); (first | exact kit_ty (r := true) (by decide +kernel) | exact kit_ty (r := false) (by decide +kernel))) | ((with_reducible apply ev_notV); walk_at "ev") | ((with_reducible apply ev_sum); walk_at "ev"; exact sq_of (by assumption)) | (apply ev_len; walk_at "ev"; exact sq_of (by assumption)))
local macro_rules | `(tactic| walk_at "et") => `(tactic| first | ((with_reducible apply et_test); walk_at "ev") | ((with_reducible apply et_B); walk_at "ev") | ((with_reducible apply et_not); walk_at "et"))
section
variable {P : Program} {w : World} {K : PySem.W.Frag} {mg : Str → Option Value} {base : Heap}
def sp_marks_of : Sp := fun vs H Q _ => ∃ (a : Addr) (ns : List Nat), vs = [.ref a] ∧ H a = some (.lst (LI ns)) ∧ Hs ns ∧ RetV (.str (mko (marks ns))) H Q
theorem spv_marks_of {a : Addr} {ns : List Nat} {H : Hp} (h : H a = some (.lst (LI ns))) (hs : Hs ns) : SpV sp_marks_of [.ref a] H (.str (mko (marks ns))) := fun H1 e Q q E => ⟨a, ns, rfl, e a _ h, hs, q⟩
theorem ok_marks_of {f : Addr} {fd : FuncData} (T : Tx mg) (F : Fun K "marks_of" "marks_of" s_marks_of f fd) (c_stairs_of : Cal P w K mg base 1 "stairs_of" sp_stairs_of) : FnOk P w K mg base CX0 2 f fd ["heaps"] sp_marks_of := by
  refine F.ok sc_marks_of (fun vs H Q E h => ?_) (fun cdv A outer s H vs Q E hr h => ?_)
  · obtain ⟨_, _, rfl, _⟩ := h
    rfl
  · obtain ⟨a, ns, rfl, ha, hs, q⟩ := h
    refine ⟨_, (pss_cons (ps_set (i := 1) sc_marks_of.nd rfl (Or.inl rfl) (pe_c c_stairs_of hr (by decide) (by rfl) (pa_cons (pe_callB (r := rSum K) (cr_sum rfl) (by rfl) T.b_sum (by decide +kernel) (pa_cons (pv 0) pa_nil)) pa_nil)))
      (pss_cons (ps_if (pt_cmpR op_gt (pe_callB (r := rLenS K) call_len_seq (by rfl) T.b_len PySem.boot_len (pa_cons (pv 0) pa_nil)) (pe_op op_add (pv 1) pe_int) (nomark _)) (pss_one (ps_ret pe_str)) pss_nil)
      (pss_cons (ps_set (i := 2) sc_marks_of.nd rfl (Or.inl rfl) (pe_lst pa_nil))
      (pss_cons (ps_for PassesOwn.never rfl (pi_enum (by rfl) T.b_enumerate (pa_cons (pe_op op_cat (pv 0) (pe_op op_rep (pe_lst (pa_cons pe_int pa_nil)) (pe_op op_sub (pe_op op_add (pv 1) pe_int) (pe_callB (r := rLenS K) call_len_seq (by rfl) T.b_len PySem.boot_len (pa_cons (pv 0) pa_nil))))) pa_nil)) (pg_tup rfl (pgs_cons (pg_name (i := 3) sc_marks_of.nd rfl (Or.inl rfl)) (pgs_cons (pg_name (i := 4) sc_marks_of.nd rfl (Or.inl rfl)) pgs_nil))) (pss_cons (ps_if (pt_not (pt_chain op_le op_le pe_int (pe_op op_add (pe_op op_sub (pv 4) (pv 1)) (pv 3)) pe_int)) (pss_one (ps_ret pe_str)) pss_nil)
        (pss_one (ps_expr (pe_bm PySem.F.plainAttrs_list PySem.F.slot_list_append PySem.F.type_list_append mt_append (pv 2) (pa_cons (pe_ix ix_str pe_str (pe_op op_add (pe_op op_sub (pv 4) (pv 1)) (pv 3)) (fun _ _ => rfl)) pa_nil))))))
      (pss_one (ps_ret (pe_join pe_str (pv 2)))))))), ?_⟩
    have hl := hs.len
    have hsm := hs.sm
    have hst := stairs_400 hsm
    refine q_asg (ev_call (ea_cons (ev_sumC (ev_var rfl) (sq_of ha)) ea_nil) (spv_stairs_of (by omega))) fun H1 e1 => ?_
    have ha1 := e1 a _ ha
    generalize hS : stairs ns.sum = st at *
    refine q_when (et_test (ev_opI0 (ev_len (ev_var rfl) (sq_of ha1)) (ev_opI0 (ev_var rfl) ev_c))) (fun hb H2 e2 => ?_) fun hb H2 e2 => ?_
    · have hb' := of_decide_eq_true hb
      rw [LI_len] at hb'
      have hm : marks ns = none := by unfold marks; rw [if_pos (by omega)]
      rw [hm] at q
      exact s_ret ev_c fun H3 e3 => q H3 ((e1.trans e2).trans e3)
    · have hb' := of_decide_eq_false hb
      rw [LI_len] at hb'
      have hm : marks ns = Ch.signs (pad ns st) := by unfold marks; rw [hS, if_neg (by omega)]
      have hpl : (pad ns st).length = st + 1 := pad_len (by omega)
      refine q_asgL (el_lst ea_nil (by decide)) fun sl H3 hsl e3 h3 => ?_
      have ha3 := e3 a _ (e2 a _ ha1)
      have hEL : EvL (tOp rCat (tVar 0) (tOp rRep (tLst (tCons (tC (.int 0)) tNil)) (tOp (rI0 fun i j => .int (i - j)) (tOp (rI0 fun i j => .int (i + j)) (tVar 1) (tC (.int 1))) (tCB (rLenS K) (tCons (tVar 0) tNil))))) [some (.ref a), some (.int (st : Nat)), some (.ref sl), none, none] H3 (LI (pad ns st)) := by
        have e : LI (pad ns st) = LI ns ++ (List.replicate ((st : Int) + 1 - ((LI ns).length : Int)).toNat [V.int 0]).flatten := by
          rw [rep1, LI_len]
          unfold LI pad
          rw [cl_append, List.map_append]
          congr 1
          unfold cl
          rw [List.map_map, List.map_replicate]
          congr 1
          omega
        rw [e]
        refine el_cat (ev_var rfl) ha3 (el_rep (el_lst (ea_cons ev_c ea_nil) (by decide)) (ev_opI0 (ev_opI0 (ev_var rfl) ev_c) (ev_len (ev_var rfl) (sq_of ha3))) ?_ ?_) ?_
        · rw [LI_len]; constructor <;> omega
        · rw [LI_len]; show 1 * _ ≤ _; omega
        · rw [rep1, LI_len, List.length_replicate]; omega
      refine q_forEN (K := K) hEL (fun p i σ' H' => ∃ (bs : List Bool) (x3 x4 : Option V), σ' = [some (.ref a), some (.int (st : Nat)), some (.ref sl), x3, x4] ∧ bs.length = i ∧ Ch.signs (pad ns st) = (Ch.signs ((pad ns st).drop i)).map (bs ++ ·) ∧ Ex H2 H' ∧ H' p = some (.lst (LI (pad ns st))) ∧ H' sl = some (.lst (bs.map fun b => V.str ⟨#[sg b]⟩)) ∧ p ≠ sl) (fun p H4 hp e4 h4 => ⟨[], none, none, rfl, rfl, ?_, e3.trans e4, h4, e4 sl _ h3, fun z => by rw [z, h3] at hp; cases hp⟩) (fun p i σ' H' _ hv => ?_) (fun p i x T' σ' H' hx hv hT => ?_) (fun p σ' H' hv => ?_)
      · rw [List.drop_zero]; cases Ch.signs (pad ns st) <;> rfl
      · obtain ⟨_, _, _, _, _, _, _, h, _⟩ := hv
        exact sq_of h
      · obtain ⟨bs, x3, x4, rfl, hbl, hsg, eX, hp, hsl', hne⟩ := hv
        obtain ⟨c, hc, rfl⟩ := LI_get hx
        have hi : i < (pad ns st).length := (List.getElem?_eq_some_iff.mp hc).1
        have hd : (pad ns st).drop i = c :: (pad ns st).drop (i + 1) := by
          rw [List.drop_eq_getElem_cons hi]
          congr 1
          exact (List.getElem?_eq_some_iff.mp hc).2
        have hdl : ((pad ns st).drop (i + 1)).length = st - i := by rw [List.length_drop]; omega
        rw [hd] at hsg
        have hTs : sl ≠ T' := ne_of_none hsl' hT
        have hTp : p ≠ T' := ne_of_none hp hT
        have eT : Ex H' (upd H' T' (.tup [.int (i : Nat), .int (c : Int)])) := Ex.new hT
        refine q_when (b := !(decide (0 ≤ (c : Int) - (st : Nat) + (i : Nat)) && decide ((c : Int) - (st : Nat) + (i : Nat) ≤ 1))) (et_not (et_test (ev_chain ev_c (ev_opI0 (ev_opI0 (ev_var rfl) (ev_var rfl)) (ev_var rfl)) rv_I0 ev_c fun _ => rv_I0))) (fun hb H5 e5 => ?_) fun hb H5 e5 => ?_
        · have hno : Ch.signs (c :: (pad ns st).drop (i + 1)) = none := by
            unfold Ch.signs
            rw [hdl]
            simp only [Bool.not_eq_true', Bool.and_eq_false_iff, decide_eq_false_iff_not] at hb
            rw [if_neg (by omega), if_neg (by omega)]
          rw [hno] at hsg
          rw [hm, hsg] at q
          exact s_ret ev_c fun H6 e6 => q H6 (((e1.trans e2).trans eX).trans (eT.trans (e5.trans e6)))
        · simp only [Bool.not_eq_false', Bool.and_eq_true, decide_eq_true_eq] at hb
          have hbb : ∃ b : Bool, (c : Int) - (st : Nat) + (i : Nat) = (b.toNat : Int) := by
            rcases Nat.lt_or_ge (st - i) c with h | h
            · exact ⟨true, by show _ = (1 : Int); omega⟩
            · exact ⟨false, by show _ = (0 : Int); omega⟩
          obtain ⟨b, hb1⟩ := hbb
          have hyes : Ch.signs (c :: (pad ns st).drop (i + 1)) = (Ch.signs ((pad ns st).drop (i + 1))).map (b :: ·) := by
            conv => lhs; unfold Ch.signs
            rw [hdl]
            cases b with
            | true =>
              have : (Bool.toNat true : Int) = 1 := rfl
              rw [if_neg (by omega), if_pos (by omega)]
            | false =>
              have : (Bool.toNat false : Int) = 0 := rfl
              rw [if_pos (by omega)]
          have hs5 : H5 sl = some (.lst (bs.map fun b => V.str ⟨#[sg b]⟩)) := e5 sl _ (eT sl _ hsl')
          refine s_app (v := V.str ⟨#[sg b]⟩) hs5 (ev_var rfl) (ev_op ev_c (ev_opI0 (ev_opI0 (ev_var rfl) (ev_var rfl)) (ev_var rfl)) (rv_ixS (by decide +kernel) ?_)) (by rw [List.length_map]; omega) fun H6 e6 => ?_
          · rw [hb1]; cases b <;> decide +kernel
          · refine ⟨bs ++ [b], _, _, rfl, by rw [List.length_append, hbl]; rfl, ?_, Ex.mut (eX.trans (eT.trans (e5.trans e6))) hsl, ?_, ?_, hne⟩
            · rw [hsg, hyes]
              cases Ch.signs ((pad ns st).drop (i + 1)) with
              | none => rfl
              | some r => simp
            · rw [upd_ne hne]
              exact e6 p _ (e5 p _ (eT p _ hp))
            · rw [upd_same, List.map_append]; rfl
      · obtain ⟨bs, x3, x4, rfl, hbl, hsg, eX, hp, hsl', hne⟩ := hv
        rw [LI_len] at hsg hbl
        rw [List.drop_length] at hsg
        have hsg2 : Ch.signs (pad ns st) = some bs := by
          rw [hsg]
          show some (bs ++ []) = _
          rw [List.append_nil]
        rw [hm, hsg2] at q
        have hj : (bs.map fun b => (⟨#[sg b]⟩ : Str)).map V.str = bs.map fun b => V.str ⟨#[sg b]⟩ := by rw [List.map_map]; rfl
        refine s_ret (v := .str (mk bs)) ?_ fun H6 e6 => q H6 (((e1.trans e2).trans eX).trans e6)
        rw [← joined]
        refine ev_join (zs := bs.map fun b => (⟨#[sg b]⟩ : Str)) ev_c (ev_var rfl) (sq_of (by rw [hj]; exact hsl')) ?_
        have hz : ∀ l : List Bool, ((l.map fun b => (⟨#[sg b]⟩ : Str)).map (·.length)).sum = l.length := fun l => by
          induction l with
          | nil => rfl
          | cons b r ih => rw [List.map_cons, List.map_cons, List.sum_cons, ih, List.length_cons]; show 1 + _ = _; omega
        rw [hz, List.length_map]
        show bs.length + bs.length * 0 ≤ _
        omega
end
end Cw
namespace Cw
open PySem PySem.Spec PyProof.Rows L2 Evl Ch
local macro_rules | `(tactic| walk_at "cond") => `(tactic| first | omega | decide | (show _ ∧ _; constructor <;> first | omega | decide) | (show _ ∨ _; first | (left; constructor <;> omega) | (right; constructor <;> omega)) | (show _ ∧ _ ∧ _; refine ⟨?_, ?_, ?_⟩ <;> first | omega | decide))
local macro_rules | `(tactic| walk_at "ev") => `(tactic| first | ((with_reducible apply ev_var); rfl) | (with_reducible exact ev_c) | ((with_reducible apply ev_opI0) <;> walk_at "ev") | ((with_reducible apply ev_opI); walk_at "ev"; walk_at "ev"; walk_at "cond") | ((with_reducible apply ev_eqS); walk_at "ev"; walk_at "ev"; rfl) | ((with_reducible apply ev_neS); walk_at "ev"; walk_at "ev"; rfl) | ((with_reducible apply ev_isi); walk_at "ev"; walk_at "ev"; (first | exact ty_int | exact ty_bl | exact ty_str | exact ty_lst (by assumption)); (first | exact kit_ty (r := true) (by decide +kernel) | exact kit_ty (r := false) (by decide +kernel))) | ((with_reducible apply ev_notV); walk_at "ev") | ((with_reducible apply ev_sum); walk_at "ev"; exact sq_of (by assumption)) | (apply ev_len; walk_at "ev"; exact sq_of (by assumption)))
local macro_rules | `(tactic| walk_at "et") => `(tactic| first | ((with_reducible apply et_test); walk_at "ev") | ((with_reducible apply et_B); walk_at "ev") | ((with_reducible apply et_not); walk_at "et"))
section
variable {P : Program} {w : World} {K : PySem.W.Frag} {mg : Str → Option Value} {base : Heap}
def sp_standing : Sp := fun vs H Q _ => ∃ (n : Int) (bs : List Bool), vs = [.int n, .str (mk bs)] ∧ n + 1 = (bs.length : Int) ∧ bs.length ≤ 1000 ∧ RetL (LI (stand bs)) H Q
theorem spl_standing {n : Int} {bs : List Bool} {H : Hp} (h : n + 1 = (bs.length : Int)) (hl : bs.length ≤ 1000) : SpL sp_standing [.int n, .str (mk bs)] H (LI (stand bs)) := fun H1 e Q q E => ⟨n, bs, rfl, h, hl, q⟩
theorem ok_standing {f : Addr} {fd : FuncData} (T : Tx mg) (F : Fun K "standing" "standing" s_standing f fd) : FnOk P w K mg base CX0 1 f fd ["stairs", "marks"] sp_standing := by
  refine F.ok sc_standing (fun vs H Q E h => ?_) (fun cdv A outer s H vs Q E hr h => ?_)
  · obtain ⟨_, _, rfl, _⟩ := h
    rfl
  · obtain ⟨n, bs, rfl, hn, hl, q⟩ := h
    refine ⟨_, (pss_cons (ps_setLc (i := 2) (own := [("at", 3), ("sign", 4)]) (by rfl) sc_standing.nd rfl rfl (sw_true rfl rfl rfl (by decide +kernel)) (pi_enumS (by rfl) T.b_enumerate (pa_cons (pv 1) pa_nil)) (blkOk_by (N := N_standing) (sc := defScope s_standing) (by decide +kernel)) (fun _ _ _ _ _ => (pg_tupK (K := K) (n := 2) rfl rfl (pgs_cons (pg_name (i := 3) sc_standing.nd rfl (Or.inl rfl)) (pgs_cons (pg_name (i := 4) sc_standing.nd rfl (Or.inl rfl)) pgs_nil)))) (fun _ _ _ _ _ => pts_nil) (fun _ _ _ _ _ => (pe_op op_add (pe_op op_sub (pv 0) (pv 3)) (pe_ifExp (pt_cmpR op_eq (pv 4) pe_str (nomark _)) pe_int pe_int))))
      (pss_one (ps_ret (pe_lc (own := [("cards", 5)]) (by rfl) sc_standing.nd (pi_list (pv 2)) (blkOk_by (N := N_standing) (sc := defScope s_standing) (by decide +kernel)) (fun _ _ _ _ _ => (pg_name (i := 5) sc_standing.nd rfl (Or.inl rfl))) (fun _ _ _ _ _ => (pts_one (pt_cmpR op_gt (pv 5) pe_int (nomark _)))) (fun _ _ _ _ _ => (pv 5)))))), ?_⟩
    refine q_asgL (el_lcES (K := K) (w := mk bs) (fun i c => V.int (n - (i : Nat) + (if decide (c = 120) then 1 else 0))) (ev_var rfl) (by rw [mk_size]; omega) (fun x y => rfl) fun i c H1 e1 hc => ?_) fun p H1 hp e1 h1 => ?_
    · refine ev_opI0 (ev_opI0 (ev_var rfl) (ev_var rfl)) (ev_ifI (et_is (et_test (ev_eqS (ev_var rfl) ev_c rfl)) ?_) (fun _ => ev_c) (fun _ => ev_c))
      rw [sg_x]
      by_cases h : c = 120
      · subst h; simp
      · simp [h]
    · have e2 : ((List.range (mk bs).cps.size).map fun i => V.int (n - (i : Nat) + (if decide ((mk bs).cps.getD i 0 = 120) then 1 else 0))) = (cl (st bs)).map V.int := st_list hn
      rw [e2] at h1
      refine s_retL ?_ fun p' H2 hp' e2 h2 => q.go e1 hp' e2 h2
      have e3 : LI (stand bs) = ((cl (st bs)).filter fun z => decide (0 < z)).map V.int := by
        unfold LI stand
        congr 1
        generalize st bs = l
        induction l with
        | nil => rfl
        | cons a r ih =>
          rw [cl_cons, List.filter_cons, List.filter_cons]
          by_cases h : 0 < a
          · rw [if_pos (by simpa using h), if_pos (by simpa using h), cl_cons, ih]
          · rw [if_neg (by simpa using h), if_neg (by simpa using h), ih]
      rw [e3]
      exact el_lcM (inj := V.int) (ys := cl (st bs)) (fun z => decide (0 < z)) (fun z => V.int z) (ev_var rfl) (sq_of h1) (by rw [cl_len, st_len]; omega) (fun x => rfl) (fun y H2 e2 hy => et_test (ev_opI0 (ev_var rfl) ev_c)) (fun y H2 e2 hy hp => ev_var rfl)
end
end Cw
namespace Cw
open PySem PySem.Spec PyProof.Rows L2 Evl Ch
local macro_rules | `(tactic| walk_at "cond") => `(tactic| first | omega | decide | (show _ ∧ _; constructor <;> first | omega | decide) | (show _ ∨ _; first | (left; constructor <;> omega) | (right; constructor <;> omega)) | (show _ ∧ _ ∧ _; refine ⟨?_, ?_, ?_⟩ <;> first | omega | decide))
local macro_rules | `(tactic| walk_at "ev") => `(tactic| first | ((with_reducible apply ev_var); rfl) | (with_reducible exact ev_c) | ((with_reducible apply ev_opI0) <;> walk_at "ev") | ((with_reducible apply ev_opI); walk_at "ev"; walk_at "ev"; walk_at "cond") | ((with_reducible apply ev_eqS); walk_at "ev"; walk_at "ev"; rfl) | ((with_reducible apply ev_neS); walk_at "ev"; walk_at "ev"; rfl) | ((with_reducible apply ev_isi); walk_at "ev"; walk_at "ev"; (first | exact ty_int | exact ty_bl | exact ty_str | exact ty_lst (by assumption)); (first | exact kit_ty (r := true) (by decide +kernel) | exact kit_ty (r := false) (by decide +kernel))) | ((with_reducible apply ev_notV); walk_at "ev") | ((with_reducible apply ev_sum); walk_at "ev"; exact sq_of (by assumption)) | (apply ev_len; walk_at "ev"; exact sq_of (by assumption)))
local macro_rules | `(tactic| walk_at "et") => `(tactic| first | ((with_reducible apply et_test); walk_at "ev") | ((with_reducible apply et_B); walk_at "ev") | ((with_reducible apply et_not); walk_at "et"))
section
variable {P : Program} {w : World} {K : PySem.W.Frag} {mg : Str → Option Value} {base : Heap}
def sp_turns_to : Sp := fun vs H Q _ => ∃ (a : Addr) (ns : List Nat), vs = [.ref a] ∧ H a = some (.lst (LI ns)) ∧ Hs ns ∧ RetV (.int (tt ns : Nat)) H Q
theorem spv_turns_to {a : Addr} {ns : List Nat} {H : Hp} (h : H a = some (.lst (LI ns))) (hs : Hs ns) : SpV sp_turns_to [.ref a] H (.int (tt ns : Nat)) := fun H1 e Q q E => ⟨a, ns, rfl, e a _ h, hs, q⟩
theorem ok_turns_to {f : Addr} {fd : FuncData} (T : Tx mg) (F : Fun K "turns_to" "turns_to" s_turns_to f fd) (c_marks_of : Cal P w K mg base 2 "marks_of" sp_marks_of) (c_turn_of : Cal P w K mg base 1 "turn_of" sp_turn_of) : FnOk P w K mg base CX0 3 f fd ["heaps"] sp_turns_to := by
  refine F.ok sc_turns_to (fun vs H Q E h => ?_) (fun cdv A outer s H vs Q E hr h => ?_)
  · obtain ⟨_, _, rfl, _⟩ := h
    rfl
  · obtain ⟨a, ns, rfl, ha, hs, q⟩ := h
    refine ⟨_, (pss_cons (ps_set (i := 1) sc_turns_to.nd rfl (Or.inl rfl) (pe_callTy (r := rListS K) call_list_of (by rfl) T.b_list (by decide +kernel) (pa_cons (pv 0) pa_nil)))
      (pss_cons (ps_set (i := 2) sc_turns_to.nd rfl (Or.inl rfl) pe_int)
      (pss_cons (ps_while PassesOwn.never (pt_cmpR op_eq (pe_c c_marks_of hr (by decide) (by rfl) (pa_cons (pv 1) pa_nil)) pe_str (nomark _)) (pss_cons (ps_set (i := 1) sc_turns_to.nd rfl (Or.inl rfl) (pe_c c_turn_of hr (by decide) (by rfl) (pa_cons (pv 1) pa_nil)))
        (pss_one (ps_aug (i := 2) sc_turns_to.nd rfl (Or.inl rfl) pe_int ip_add))))
      (pss_one (ps_ret (pv 2)))))), ?_⟩
    obtain ⟨t1, t2, t3⟩ := tt_is hs
    refine q_asgL (el_list (ev_var rfl) (sq_of ha)) fun p H1 hp e1 h1 => ?_
    refine q_asg ev_c fun H2 e2 => ?_
    refine q_while (fun m σ' H' => ∃ (u : Nat) (p' : Addr), σ' = [some (.ref a), some (.ref p'), some (.int (u : Int))] ∧ u + m = tt ns ∧ Ex H H' ∧ H' p' = some (.lst (LI (tn u ns)))) (tt ns) ⟨0, p, rfl, by omega, e1.trans e2, e2 p _ h1⟩ fun m σ' H' hw => ?_
    obtain ⟨u, p', rfl, hu, eH, h'⟩ := hw
    have hsu := hs.tn u
    refine ⟨decide (V.str (mko (marks (tn u ns))) = V.str ("" : Str)), et_test (ev_eqS (ev_call (ea_cons (ev_var rfl) ea_nil) (spv_marks_of h' hsu)) ev_c rfl), fun hb H4 e4 => ?_, fun hb H4 e4 => ?_⟩
    · have hm0 : m ≠ 0 := fun z => by
        have e : u = tt ns := by omega
        rw [e] at hb
        have hb' := V.str.inj (of_decide_eq_true hb)
        cases hm : marks (tn (tt ns) ns) with
        | none => exact t1 hm
        | some bs =>
          rw [hm] at hb'
          exact marks_ne hm (mk_eq_nil.mp hb')
      refine ⟨fun σ2 H5 => ∃ p2, σ2 = [some (.ref a), some (.ref p2), some (.int ((u : Int) + 1))] ∧ Ex H H5 ∧ H5 p2 = some (.lst (LI (tn (u + 1) ns))), fun σ2 H5 hN => ?_, ?_⟩
      · obtain ⟨p2, rfl, eH5, h5⟩ := hN
        exact ⟨m - 1, by omega, u + 1, p2, rfl, by omega, eH5, h5⟩
      · refine q_asgL (el_call (ea_cons (ev_var rfl) ea_nil) (spl_turn_of (e4 p' _ h') hsu)) fun p2 H5 hp2 e5 h5 => ?_
        refine s_aug (a := (u : Int)) (b := 1) rfl ev_c fun H6 e6 => ⟨p2, rfl, ((eH.trans e4).trans e5).trans e6, ?_⟩
        rw [tn_succ]
        exact e6 p2 _ h5
    · have hm : marks (tn u ns) ≠ none := fun z => by
        rw [z] at hb
        exact of_decide_eq_false hb rfl
      have hut : u = tt ns := by
        rcases Nat.lt_or_ge u (tt ns) with z | z
        · exact absurd (t2 u z) hm
        · omega
      subst hut
      exact s_ret (ev_var rfl) fun H5 e5 => q H5 ((eH.trans e4).trans e5)
end
end Cw
namespace Cw
open PySem PySem.Spec PyProof.Rows L2 Evl Ch
local macro_rules | `(tactic| walk_at "cond") => `(tactic| first | omega | decide | (show _ ∧ _; constructor <;> first | omega | decide) | (show _ ∨ _; first | (left; constructor <;> omega) | (right; constructor <;> omega)) | (show _ ∧ _ ∧ _; refine ⟨?_, ?_, ?_⟩ <;> first | omega | decide))
local macro_rules | `(tactic| walk_at "ev") => `(tactic| first | ((with_reducible apply ev_var); rfl) | (with_reducible exact ev_c) | ((with_reducible apply ev_opI0) <;> walk_at "ev") | ((with_reducible apply ev_opI); walk_at "ev"; walk_at "ev"; walk_at "cond") | ((with_reducible apply ev_eqS); walk_at "ev"; walk_at "ev"; rfl) | ((with_reducible apply ev_neS); walk_at "ev"; walk_at "ev"; rfl) | ((with_reducible apply ev_isi); walk_at "ev"; walk_at "ev"; (first | exact ty_int | exact ty_bl | exact ty_str | exact ty_lst (by assumption)); (first | exact kit_ty (r := true) (by decide +kernel) | exact kit_ty (r := false) (by decide +kernel))) | ((with_reducible apply ev_notV); walk_at "ev") | ((with_reducible apply ev_sum); walk_at "ev"; exact sq_of (by assumption)) | (apply ev_len; walk_at "ev"; exact sq_of (by assumption)))
local macro_rules | `(tactic| walk_at "et") => `(tactic| first | ((with_reducible apply et_test); walk_at "ev") | ((with_reducible apply et_B); walk_at "ev") | ((with_reducible apply et_not); walk_at "et"))
section
variable {P : Program} {w : World} {K : PySem.W.Frag} {mg : Str → Option Value} {base : Heap}
def sp_ahead (BH : Addr) : Sp := fun vs H Q E => ∃ v, vs = [v] ∧ ((∃ (a : Addr) (ns : List Nat), v = .ref a ∧ H a = some (.lst (LI ns)) ∧ Hs ns ∧ RetP (isAhd H (ahd ns)) H Q) ∨ (BadH v H ∧ Out BH H E))
theorem LI_app (a b : List Nat) : LI (a ++ b) = LI a ++ LI b := by unfold LI; rw [cl_append, List.map_append]
theorem LI_take (ns : List Nat) (i : Nat) : (LI ns).take i = LI (ns.take i) := by unfold LI cl; rw [List.map_take, List.map_take]
theorem LI_drop (ns : List Nat) (i : Nat) : (LI ns).drop i = LI (ns.drop i) := by unfold LI cl; rw [List.map_drop, List.map_drop]
theorem LI_nth {ns : List Nat} {i : Nat} (h : i < ns.length) : (LI ns)[i]? = some (.int (nth ns i : Nat)) := by
  unfold LI cl nth
  rw [List.getElem?_map, List.getElem?_map, List.getElem?_eq_getElem h]; rfl
theorem ok_ahead {f : Addr} {fd : FuncData} {BH : Addr} (T : Tx mg) (F : Fun K "ahead" "ahead" s_ahead f fd) (c_check_heaps : CalX P w K mg base 2 "check_heaps" (sp_check_heaps BH)) : FnOk P w K mg base (L2N.CX P w) 3 f fd ["heaps"] (sp_ahead BH) := by
  refine F.okN sc_ahead (fun vs H Q E h => ?_) (fun cdv A outer s H vs Q E hr h => ?_)
  · obtain ⟨_, rfl, _⟩ := h
    rfl
  · obtain ⟨v, rfl, h⟩ := h
    refine ⟨_, (pss_cons (ps_expr (pe_cX c_check_heaps hr (by decide) (by rfl) (L2N.takes_of rfl rfl rfl rfl) (pa_cons (pv 0) pa_nil)))
      (PSs.nox (pss_cons (ps_if (pt_cmpR (r := rEqD K) (op_eqD hr.units) (pv 0) (pe_lst pa_nil) (nomark _)) (pss_one (ps_ret (pe_lst (pa_cons (pe_lst pa_nil) pa_nil)))) pss_nil)
      (pss_cons (ps_set (i := 1) sc_ahead.nd rfl (Or.inl rfl) (pe_lst pa_nil))
      (pss_cons (ps_for PassesOwn.never rfl (pi_enum (by rfl) T.b_enumerate (pa_cons (pv 0) pa_nil)) (pg_tup rfl (pgs_cons (pg_name (i := 2) sc_ahead.nd rfl (Or.inl rfl)) (pgs_cons (pg_name (i := 3) sc_ahead.nd rfl (Or.inl rfl)) pgs_nil))) (pss_cons (ps_set (i := 4) sc_ahead.nd rfl (Or.inl rfl) (pe_op op_cat (pe_slice (r := rSlL K) sl_list (pv 0) po_none (po_some (pv 2))) (pe_slice (r := rSlL K) sl_list (pv 0) (po_some (pe_op op_add (pv 2) pe_int)) po_none)))
        (pss_one (ps_if (PW.pt (pw_and (pt_cmpR op_ge (pv 3) (pe_callB (r := rLenS K) call_len_seq (by rfl) T.b_len PySem.boot_len (pa_cons (pv 4) pa_nil)) (nomark _)) (pw_and1 (PW.pt (pw_or (pt_cmpR op_eq (pv 2) pe_int (nomark _)) (pw_or1 (pt_cmpR op_ne (pe_ix (r := rIxL K) ix_list (pv 0) (pe_op op_sub (pv 2) pe_int) (fun _ _ => rfl)) (pv 3) (nomark _)))))))) (pss_one (ps_expr (pe_bm PySem.F.plainAttrs_list PySem.F.slot_list_append PySem.F.type_list_append mt_append (pv 1) (pa_cons (pe_op op_cat (pe_lc (own := [("other", 5)]) (by rfl) sc_ahead.nd (pi_list (pv 4)) (blkOk_by (N := N_ahead) (sc := defScope s_ahead) (by decide +kernel)) (fun _ _ _ _ _ => (pg_name (i := 5) sc_ahead.nd rfl (Or.inl rfl))) (fun _ _ _ _ _ => pts_nil) (fun _ _ _ _ _ => (pe_op op_add (pv 5) pe_int))) (pe_op op_rep (pe_lst (pa_cons pe_int pa_nil)) (pe_op op_sub (pv 3) (pe_callB (r := rLenS K) call_len_seq (by rfl) T.b_len PySem.boot_len (pa_cons (pv 4) pa_nil))))) pa_nil)))) pss_nil))))
      (pss_one (ps_ret (pv 1)))))))), ?_⟩
    refine q_dropS (ea_cons (ev_var rfl) ea_nil) fun H0 e0 => ⟨v, rfl, ?_⟩
    rcases h with h | ⟨hb, q⟩
    rotate_left
    · exact .inr ⟨hb.mono e0, fun H2 e2 => q H2 (e0.trans e2)⟩
    obtain ⟨a, ns, rfl, ha, hs, q⟩ := h
    refine .inl ⟨a, ns, rfl, e0 a _ ha, hs, fun H1 e01 => ?_⟩
    have e1 := e0.trans e01
    have ha1 := e1 a _ ha
    refine q_when (et_test (ev_eqI (il_v (ev_var rfl) (sq_of ha1)) (il_n (ns := []) (el_lst ea_nil (by decide))))) (fun hb H2 e2 => ?_) fun hb H2 e2 => ?_
    · have e0 : ns = [] := cl_eq_nil.mp (of_decide_eq_true hb)
      subst e0
      refine s_retP (ep_lst1N (el_lst ea_nil (by decide))) fun v H3 e3 hv => ?_
      obtain ⟨p, r, rfl, h1, h2, h3, h4, h5⟩ := hv
      have e12 := e1.trans e2
      exact q _ _ (e12.trans e3) ⟨p, _, rfl, fresh_back e12 h1, h4, .cons ⟨r, rfl, h2, fresh_back e12 h3, h5⟩ .nil⟩
    · have hn : ns ≠ [] := fun e => of_decide_eq_false hb (by rw [e]; rfl)
      have hl := hs.len
      have ha2 := e2 a _ ha1
      refine q_asgL (el_lst ea_nil (by decide)) fun p H3 hp e3 h3 => ?_
      have hpH : H p = none := fresh_back (e1.trans e2) hp
      have ha3 := e3 a _ ha2
      have nap : a ≠ p := ne_of_none ha2 hp
      refine q_forE (K := K) (ev_var rfl) (sq_of ha3) (fun i σ' H' => ∃ (x2 x3 x4 : Option V) (xs : List V), σ' = [some (.ref a), some (.ref p), x2, x3, x4, none] ∧ Ex H H' ∧ H' p = some (.lst xs) ∧ AllP H' ((ahF ns i).map (isNX H p)) xs) (fun H4 e4 => ⟨none, none, none, [], rfl, (e1.trans (e2.trans e3)).trans e4, e4 p _ h3, .nil⟩) (fun i σ' H' _ hv => ?_) (fun i x T' σ' H' hx hv hT => ?_) (fun σ' H' hv => ?_)
      · obtain ⟨_, _, _, _, _, e, _, _⟩ := hv
        exact sq_of (e a _ ha)
      · obtain ⟨x2, x3, x4, xs, rfl, eX, hpX, hA⟩ := hv
        have hi : i < ns.length := by
          have := (List.getElem?_eq_some_iff.mp hx).1
          rw [LI_len] at this
          exact this
        rw [LI_nth hi] at hx
        cases hx
        have eT : Ex H' (upd H' T' (.tup [.int (i : Nat), .int (nth ns i : Nat)])) := Ex.new hT
        have haT := (eX.trans eT) a _ ha
        have hpT := eT p _ hpX
        have hxl : xs.length ≤ i := by
          rw [hA.len, List.length_map]
          unfold ahF
          rw [List.length_map]
          exact Nat.le_trans (List.length_filter_le _ _) (by rw [List.length_range]; omega)
        have hot : LI (ns.take i) ++ LI (ns.drop (i + 1)) = LI (ns.eraseIdx i) := by rw [← LI_app, List.eraseIdx_eq_take_drop_succ]
        have hlo := er_len hi
        refine q_asgL (xs := LI (ns.eraseIdx i)) (el_is (el_catN (el_is (el_sl (ev_var rfl) eo_none (eo_some (ev_var rfl)) (sq_of haT)) ((cut_takeL _ i).trans (LI_take ns i))) (el_is (el_sl (ev_var rfl) (eo_some (ev_i (ev_opI0 (g := fun i j => .int (i + j)) (ev_var rfl) ev_c) (show ((i : Nat) : Int) + 1 = ((i + 1 : Nat) : Int) by omega))) eo_none (sq_of haT)) ((cut_dropV _ (i + 1) (by rw [LI_len]; omega)).trans (LI_drop ns (i + 1)))) (by rw [LI_len, LI_len, List.length_take, List.length_drop]; omega)) hot) fun o H4 ho e4 h4 => ?_
        have e14 := eT.trans e4
        have hp4 := e4 p _ hpT
        have ha4 := e4 a _ haT
        refine s_when (b := aok ns i) (et_is (et_and (et_test (ev_opI0 (g := fun i j => .bl (decide (j ≤ i))) (ev_var rfl) (ev_len (ev_var rfl) (sq_of h4)))) fun _ => et_or (et_test (ev_eqS (ev_var rfl) ev_c rfl)) fun h0 => by
          have h1 : ¬ (i = 0) := fun z => by subst z; simp at h0
          exact et_test (ev_neS (x := .int (nth ns (i - 1) : Nat)) (ev_ixLv (ev_var rfl) (ev_opI0 (g := fun i j => .int (i - j)) (ev_var rfl) ev_c) (sq_of ha4) (at_of (show ((i : Nat) : Int) - 1 = ((i - 1 : Nat) : Int) by omega) (LI_nth (by omega)))) (ev_var rfl) rfl)) ?_) (fun ok H5 e5 => ?_) fun ok H5 e5 => ?_
        · unfold aok
          rw [LI_len, hlo]
          congr 1
          · exact decide_eq_decide.mpr (by omega)
          · congr 1
            · rw [dec_int]; exact decide_eq_decide.mpr (by omega)
            · rw [Bool.eq_iff_iff, Bool.not_eq_true', decide_eq_false_iff_not, decide_eq_true_iff]
              refine not_congr ⟨fun z => ?_, fun z => by rw [z]⟩
              injection z with z
              omega
        · have h45 := e5 o _ h4
          have hge : ns.length - 1 ≤ nth ns i := by
            unfold aok at ok
            rw [Bool.and_eq_true] at ok
            exact of_decide_eq_true ok.1
          have hle := hs.le (nth_mem hi)
          have e15 := eX.trans (e14.trans e5)
          refine s_appL (e5 p _ hp4) (ev_var rfl) (ys := LI (aon ns i)) (el_is (el_catN (el_lcM (inj := V.int) (ys := cl (ns.eraseIdx i)) (fun _ => true) (fun z => V.int (z + 1)) (ev_var rfl) (sq_of h45) (by rw [cl_len]; omega) (fun x => rfl) (fun _ _ _ _ => et_yes) (fun y H2 e2 hy hp => ev_opI0 (g := fun i j => .int (i + j)) (ev_var rfl) ev_c)) (el_rep (el_lst (ea_cons ev_c ea_nil) (by decide)) (ev_opI0 (g := fun i j => .int (i - j)) (ev_var rfl) (ev_len (ev_var rfl) (sq_of h45))) (by rw [LI_len, hlo]; omega) (by rw [LI_len, hlo]; simp; omega)) ?_) ?_) (by omega) fun r H6 hr6 e6 h6 => ⟨_, _, _, _, rfl, Ex.mut (e15.trans e6) hpH, upd_same, ?_⟩
          · rw [filter_true, List.length_map, cl_len, rep1, List.length_replicate, LI_len, hlo]
            omega
          · rw [filter_true, rep1]
            unfold aon
            rw [LI_app, LI_len, hlo]
            congr 1
            · unfold LI cl
              rw [List.map_map, List.map_map, List.map_map]
              rfl
            · unfold LI cl
              rw [List.map_replicate, List.map_replicate]
              congr 1
              omega
          · rw [ahF_succ, if_pos ok, List.map_append]
            have nr : r ≠ p := (ne_of_none (e5 p _ hp4) hr6).symm
            exact (rows_upd (hA.mono mo_mapX ((e14.trans e5).trans e6))).snoc ⟨r, rfl, nr, fresh_back e15 hr6, by rw [upd_ne nr]; exact h6⟩
        · refine ⟨_, _, _, _, rfl, eX.trans (e14.trans e5), e5 p _ hp4, ?_⟩
          rw [ahF_succ, if_neg (by rw [ok]; exact fun z => nomatch z)]
          exact hA.mono mo_mapX (e14.trans e5)
      · obtain ⟨x2, x3, x4, xs, rfl, eX, hpX, hA⟩ := hv
        rw [LI_len] at hA
        refine s_ret (ev_var rfl) fun H4 e4 => q _ H4 (eX.trans e4) ⟨p, xs, rfl, hpH, e4 p _ hpX, ?_⟩
        unfold ahd
        rw [if_neg hn]
        exact hA.mono mo_mapX e4
end
end Cw
namespace Cw
open PySem PySem.Spec PyProof.Rows L2 Evl Ch
local macro_rules | `(tactic| walk_at "cond") => `(tactic| first | omega | decide | (show _ ∧ _; constructor <;> first | omega | decide) | (show _ ∨ _; first | (left; constructor <;> omega) | (right; constructor <;> omega)) | (show _ ∧ _ ∧ _; refine ⟨?_, ?_, ?_⟩ <;> first | omega | decide))
local macro_rules | `(tactic| walk_at "ev") => `(tactic| first | ((with_reducible apply ev_var); rfl) | (with_reducible exact ev_c) | ((with_reducible apply ev_opI0) <;> walk_at "ev") | ((with_reducible apply ev_opI); walk_at "ev"; walk_at "ev"; walk_at "cond") | ((with_reducible apply ev_eqS); walk_at "ev"; walk_at "ev"; rfl) | ((with_reducible apply ev_neS); walk_at "ev"; walk_at "ev"; rfl) | ((with_reducible apply ev_isi); walk_at "ev"; walk_at "ev"; (first | exact ty_int | exact ty_bl | exact ty_str | exact ty_lst (by assumption)); (first | exact kit_ty (r := true) (by decide +kernel) | exact kit_ty (r := false) (by decide +kernel))) | ((with_reducible apply ev_notV); walk_at "ev") | ((with_reducible apply ev_sum); walk_at "ev"; exact sq_of (by assumption)) | (apply ev_len; walk_at "ev"; exact sq_of (by assumption)))
local macro_rules | `(tactic| walk_at "et") => `(tactic| first | ((with_reducible apply et_test); walk_at "ev") | ((with_reducible apply et_B); walk_at "ev") | ((with_reducible apply et_not); walk_at "et"))
section
variable {P : Program} {w : World} {K : PySem.W.Frag} {mg : Str → Option Value} {base : Heap}
def sp_length (BH : Addr) : Sp := fun vs H Q E => ∃ v, vs = [v] ∧ ((∃ (a : Addr) (ns : List Nat), v = .ref a ∧ H a = some (.lst (LI ns)) ∧ Hs ns ∧ RetV (.int (pr ns : Nat)) H Q) ∨ (BadH v H ∧ Out BH H E))
theorem ok_length {f : Addr} {fd : FuncData} {BH : Addr} (T : Tx mg) (F : Fun K "length" "length" s_length f fd) (c_check_heaps : CalX P w K mg base 2 "check_heaps" (sp_check_heaps BH)) (c_marks_of : Cal P w K mg base 2 "marks_of" sp_marks_of) (c_turn_of : Cal P w K mg base 1 "turn_of" sp_turn_of) (c_turns_to : Cal P w K mg base 3 "turns_to" sp_turns_to) : FnOk P w K mg base (L2N.CX P w) 4 f fd ["heaps"] (sp_length BH) := by
  refine F.okN sc_length (fun vs H Q E h => ?_) (fun cdv A outer s H vs Q E hr h => ?_)
  · obtain ⟨_, rfl, _⟩ := h
    rfl
  · obtain ⟨v, rfl, h⟩ := h
    refine ⟨_, (pss_cons (ps_expr (pe_cX c_check_heaps hr (by decide) (by rfl) (L2N.takes_of rfl rfl rfl rfl) (pa_cons (pv 0) pa_nil)))
      (PSs.nox (pss_cons (ps_set (i := 1) sc_length.nd rfl (Or.inl rfl) (pe_callTy (r := rListS K) call_list_of (by rfl) T.b_list (by decide +kernel) (pa_cons (pv 0) pa_nil)))
      (pss_cons (ps_for PassesOwn.never rfl (pi_range1 (by rfl) T.b_range (pa_cons (pe_c c_turns_to hr (by decide) (by rfl) (pa_cons (pv 0) pa_nil)) pa_nil)) (pg_name (i := 2) sc_length.nd rfl (Or.inl rfl)) (pss_one (ps_set (i := 1) sc_length.nd rfl (Or.inl rfl) (pe_c c_turn_of hr (by decide) (by rfl) (pa_cons (pv 1) pa_nil)))))
      (pss_cons (ps_set (i := 3) sc_length.nd rfl (Or.inl rfl) (pe_c c_marks_of hr (by decide) (by rfl) (pa_cons (pv 1) pa_nil)))
      (pss_cons (ps_set (i := 4) sc_length.nd rfl (Or.inl rfl) pe_int)
      (pss_cons (ps_while PassesOwn.never (pt_cmpR op_ne (pe_op op_add_str (pe_slice sl_str (pv 3) (po_some (pv 4)) po_none) (pe_slice sl_str (pv 3) po_none (po_some (pv 4)))) (pv 3) (nomark _)) (pss_one (ps_aug (i := 4) sc_length.nd rfl (Or.inl rfl) pe_int ip_add)))
      (pss_one (ps_ret (pv 4)))))))))), ?_⟩
    refine q_dropS (ea_cons (ev_var rfl) ea_nil) fun H0 e0 => ⟨v, rfl, ?_⟩
    rcases h with h | ⟨hb, q⟩
    rotate_left
    · exact .inr ⟨hb.mono e0, fun H2 e2 => q H2 (e0.trans e2)⟩
    obtain ⟨a, ns, rfl, ha, hs, q⟩ := h
    refine .inl ⟨a, ns, rfl, e0 a _ ha, hs, fun H1 e01 => ?_⟩
    have e1 := e0.trans e01
    obtain ⟨t1, t2, t3⟩ := tt_is hs
    have ha1 := e1 a _ ha
    refine q_asgL (el_list (ev_var rfl) (sq_of ha1)) fun p H2 hp e2 h2 => ?_
    refine q_forR1B (n := (tt ns : Nat)) (ea_cons (ev_call (ea_cons (ev_var rfl) ea_nil) (spv_turns_to (e2 a _ ha1) hs)) ea_nil) (by omega) (fun i σ' H' => ∃ (p' : Addr) (x2 : Option V), σ' = [some (.ref a), some (.ref p'), x2, none, none] ∧ Ex H H' ∧ H' p' = some (.lst (LI (tn i ns)))) (fun H3 e3 => ⟨p, none, rfl, (e1.trans e2).trans e3, e3 p _ h2⟩) (fun i σ' H' hi hv => ?_) (fun σ' H' hv => ?_)
    · obtain ⟨p', x2, rfl, eX, h'⟩ := hv
      refine s_asgL (el_call (ea_cons (ev_var rfl) ea_nil) (spl_turn_of h' (hs.tn i))) fun p2 H3 hp2 e3 h3 => ⟨p2, _, rfl, eX.trans e3, by rw [tn_succ]; exact h3⟩
    · obtain ⟨p', x2, rfl, eX, h'⟩ := hv
      rw [Int.toNat_natCast] at h'
      have hst := hs.tn (tt ns)
      refine q_asg (ev_call (ea_cons (ev_var rfl) ea_nil) (spv_marks_of h' hst)) fun H3 e3 => ?_
      cases hm : marks (tn (tt ns) ns) with
      | none => exact absurd hm t1
      | some bs =>
        show tSeq _ _ _ [some (.ref a), some (.ref p'), x2, some (.str (mk bs)), none] _
        have epr : pr ns = per bs := by unfold pr; rw [hm]
        obtain ⟨p1, p2, p3, p4⟩ := per_is (marks_ne hm)
        have hbl : bs.length ≤ 28 := by
          have := marks_len hm
          have := stairs_400 hst.sm
          omega
        refine q_asg ev_c fun H4 e4 => ?_
        refine q_while (fun m σ' H' => ∃ u : Nat, σ' = [some (.ref a), some (.ref p'), x2, some (.str (mk bs)), some (.int (u : Int))] ∧ u + m = per bs ∧ 1 ≤ u ∧ Ex H H') (per bs - 1) ⟨1, rfl, by omega, by omega, (eX.trans e3).trans e4⟩ fun m σ' H' hw => ?_
        obtain ⟨u, rfl, hu, hu1, eH⟩ := hw
        have hadd : cutS (mk bs) (some (u : Int)) none ++ cutS (mk bs) none (some (u : Int)) = mk (lrot u bs) := by
          rw [cut_drop rfl (by omega), cut_take rfl (by omega), mk_append]; rfl
        have hE : Ev (tOp (fun x y H Q => ∃ i j, x = .str i ∧ y = .str j ∧ i.length + j.length ≤ sizeLine ∧ Q (.str (i ++ j)) H) (tSl rSlS (tVar 3) (tPart (tVar 4)) tNoPart) (tSl rSlS (tVar 3) tNoPart (tPart (tVar 4)))) [some (.ref a), some (.ref p'), x2, some (.str (mk bs)), some (.int (u : Int))] H' (.str (mk (lrot u bs))) := by
          rw [← hadd]
          refine ev_addS (ev_slS (ev_var rfl) (eo_some (ev_var rfl)) eo_none (by rw [mk_len]; omega)) (ev_slS (ev_var rfl) eo_none (eo_some (ev_var rfl)) (by rw [mk_len]; omega)) ?_
          rw [cut_drop rfl (by omega), cut_take rfl (by omega), mk_len, mk_len, List.length_drop, List.length_take]
          omega
        refine ⟨!decide (V.str (mk (lrot u bs)) = V.str (mk bs)), et_test (ev_neS hE (ev_var rfl) rfl), fun hb H5 e5 => ?_, fun hb H5 e5 => ?_⟩
        · have hne : u ≠ per bs := fun z => by
            rw [z, p3, decide_eq_true rfl] at hb
            cases hb
          refine ⟨fun σ2 H6 => σ2 = [some (.ref a), some (.ref p'), x2, some (.str (mk bs)), some (.int ((u + 1 : Nat) : Int))] ∧ Ex H H6, fun σ2 H6 hN => ⟨m - 1, by omega, u + 1, hN.1, by omega, by omega, hN.2⟩, ?_⟩
          exact s_aug (a := (u : Int)) (b := 1) rfl ev_c fun H6 e6 => ⟨rfl, (eH.trans e5).trans e6⟩
        · have hl : lrot u bs = bs := by
            have hd : decide (V.str (mk (lrot u bs)) = V.str (mk bs)) = true := by
              cases hd : decide (V.str (mk (lrot u bs)) = V.str (mk bs)) with
              | true => rfl
              | false => rw [hd] at hb; cases hb
            exact mk_inj (V.str.inj (of_decide_eq_true hd))
          have hup : u = pr ns := by
            rw [epr]
            rcases Nat.lt_or_ge u (per bs) with z | z
            · exact absurd hl (p4 u hu1 z)
            · omega
          rw [← hup] at q
          exact s_ret (ev_var rfl) fun H6 e6 => q H6 ((eH.trans e5).trans e6)
end
end Cw
namespace Cw
open PySem PySem.Spec PyProof.Rows L2 Evl Ch
local macro_rules | `(tactic| walk_at "cond") => `(tactic| first | omega | decide | (show _ ∧ _; constructor <;> first | omega | decide) | (show _ ∨ _; first | (left; constructor <;> omega) | (right; constructor <;> omega)) | (show _ ∧ _ ∧ _; refine ⟨?_, ?_, ?_⟩ <;> first | omega | decide))
local macro_rules | `(tactic| walk_at "ev") => `(tactic| first | ((with_reducible apply ev_var); rfl) | (with_reducible exact ev_c) | ((with_reducible apply ev_opI0) <;> walk_at "ev") | ((with_reducible apply ev_opI); walk_at "ev"; walk_at "ev"; walk_at "cond") | ((with_reducible apply ev_eqS); walk_at "ev"; walk_at "ev"; rfl) | ((with_reducible apply ev_neS); walk_at "ev"; walk_at "ev"; rfl) | ((with_reducible apply ev_isi); walk_at "ev"; walk_at "ev"; (first | exact ty_int | exact ty_bl | exact ty_str | exact ty_lst (by assumption)); (first | exact kit_ty (r := true) (by decide +kernel) | exact kit_ty (r := false) (by decide +kernel))) | ((with_reducible apply ev_notV); walk_at "ev") | ((with_reducible apply ev_sum); walk_at "ev"; exact sq_of (by assumption)) | (apply ev_len; walk_at "ev"; exact sq_of (by assumption)))
local macro_rules | `(tactic| walk_at "et") => `(tactic| first | ((with_reducible apply et_test); walk_at "ev") | ((with_reducible apply et_B); walk_at "ev") | ((with_reducible apply et_not); walk_at "et"))
section
variable {P : Program} {w : World} {K : PySem.W.Frag} {mg : Str → Option Value} {base : Heap}
def sp_behind (BH BT : Addr) : Sp := fun vs H Q E => ∃ v u, vs = [v, u] ∧ ((∃ (a : Addr) (ns : List Nat), v = .ref a ∧ H a = some (.lst (LI ns)) ∧ Hs ns ∧ ((∃ t : Nat, u = .int (t : Int) ∧ RetL (LI (tn t ns)) H Q) ∨ (∃ ty, ThV H u ty ∧ numV u 0 = false ∧ Out BT H E))) ∨ (BadH v H ∧ Out BH H E))
theorem ok_behind {f : Addr} {fd : FuncData} {BH BT : Addr} (T : Tx mg) (x_BadTurns : Exn K mg "BadTurns" BT) (F : Fun K "behind" "behind" s_behind f fd) (c_is_number : Cal P w K mg base 1 "is_number" sp_is_number) (c_check_heaps : CalX P w K mg base 2 "check_heaps" (sp_check_heaps BH)) (c_turn_of : Cal P w K mg base 1 "turn_of" sp_turn_of) (c_marks_of : Cal P w K mg base 2 "marks_of" sp_marks_of) (c_standing : Cal P w K mg base 1 "standing" sp_standing) : FnOk P w K mg base (L2N.CX P w) 3 f fd ["heaps", "turns"] (sp_behind BH BT) := by
  refine F.okN sc_behind (fun vs H Q E h => ?_) (fun cdv A outer s H vs Q E hr h => ?_)
  · obtain ⟨_, _, rfl, _⟩ := h
    rfl
  · obtain ⟨v, u, rfl, h⟩ := h
    refine ⟨_, (pss_cons (ps_expr (pe_cX c_check_heaps hr (by decide) (by rfl) (L2N.takes_of rfl rfl rfl rfl) (pa_cons (pv 0) pa_nil)))
      (pss_cons (ps_if (pt_not (pt_val (pe_c c_is_number hr (by decide) (by rfl) (pa_cons (pv 1) (pa_cons pe_int pa_nil))))) (pss_one (ps_refuse rfl (L2N.takes_of rfl rfl rfl rfl) x_BadTurns (by rfl))) pss_nil)
      (PSs.nox (pss_cons (ps_set (i := 2) sc_behind.nd rfl (Or.inl rfl) (pe_callTy (r := rListS K) call_list_of (by rfl) T.b_list (by decide +kernel) (pa_cons (pv 0) pa_nil)))
      (pss_cons (ps_while PassesOwn.never (PW.pt (pw_and (pt_cmpR op_gt (pv 1) pe_int (nomark _)) (pw_and1 (pt_cmpR op_eq (pe_c c_marks_of hr (by decide) (by rfl) (pa_cons (pv 2) pa_nil)) pe_str (nomark _))))) (pss_cons (ps_set (i := 2) sc_behind.nd rfl (Or.inl rfl) (pe_c c_turn_of hr (by decide) (by rfl) (pa_cons (pv 2) pa_nil)))
        (pss_one (ps_aug (i := 1) sc_behind.nd rfl (Or.inl rfl) pe_int ip_sub))))
      (pss_cons (ps_set (i := 3) sc_behind.nd rfl (Or.inl rfl) (pe_c c_marks_of hr (by decide) (by rfl) (pa_cons (pv 2) pa_nil)))
      (pss_cons (ps_if (PW.pt (pw_or (pt_cmpR op_eq (pv 1) pe_int (nomark _)) (pw_or1 (pt_cmpR op_eq (pv 3) pe_str (nomark _))))) (pss_one (ps_ret (pv 2))) pss_nil)
      (pss_cons (ps_set (i := 4) sc_behind.nd rfl (Or.inl rfl) (pe_op op_mod (pv 1) (pe_callB call_len_str (by rfl) T.b_len PySem.boot_len (pa_cons (pv 3) pa_nil))))
      (pss_one (ps_ret (pe_c c_standing hr (by decide) (by rfl) (pa_cons (pe_op op_sub (pe_callB call_len_str (by rfl) T.b_len PySem.boot_len (pa_cons (pv 3) pa_nil)) pe_int) (pa_cons (pe_op op_add_str (pe_slice sl_str (pv 3) (po_some (pe_op op_sub (pe_callB call_len_str (by rfl) T.b_len PySem.boot_len (pa_cons (pv 3) pa_nil)) (pv 4))) po_none) (pe_slice sl_str (pv 3) po_none (po_some (pe_op op_sub (pe_callB call_len_str (by rfl) T.b_len PySem.boot_len (pa_cons (pv 3) pa_nil)) (pv 4))))) pa_nil))))))))))))), ?_⟩
    refine q_dropS (ea_cons (ev_var rfl) ea_nil) fun H0 e0 => ⟨v, rfl, ?_⟩
    rcases h with h | ⟨hb, q⟩
    rotate_left
    · exact .inr ⟨hb.mono e0, fun H2 e2 => q H2 (e0.trans e2)⟩
    obtain ⟨a, ns, rfl, ha, hs, h⟩ := h
    refine .inl ⟨a, ns, rfl, e0 a _ ha, hs, fun H1 e01 => ?_⟩
    have e1 := e0.trans e01
    have ha1 := e1 a _ ha
    rcases h with h | ⟨ty, hty, hnu, q⟩
    rotate_left
    · exact q_when (b := true) (et_is (et_not (et_B (ev_call (ea_cons (ev_var rfl) (ea_cons ev_c ea_nil)) (spv_is_number (hty.mono e1))))) (by rw [hnu]; rfl)) (fun _ H2 e2 => q H2 (e1.trans e2)) fun h => nomatch h
    obtain ⟨t, rfl, q⟩ := h
    refine q_when (b := false) (et_is (et_not (et_B (ev_call (ea_cons (ev_var rfl) (ea_cons ev_c ea_nil)) (spv_is_number (.int _))))) (by show (!decide ((0 : Int) ≤ (t : Int))) = false; rw [decide_eq_true (by omega)]; rfl)) (fun h => nomatch h) fun _ H2 e2 => ?_
    refine q_asgL (el_list (ev_var rfl) (sq_of (e2 a _ ha1))) fun p H3 hp e3 h3 => ?_
    have e13 := (e1.trans e2).trans e3
    have hpH : H p = none := fresh_back (e1.trans e2) hp
    refine q_while (fun m σ' H' => ∃ (u : Nat) (p' : Addr), σ' = [some (.ref a), some (.int (m : Int)), some (.ref p'), none, none] ∧ u + m = t ∧ Ex H H' ∧ H p' = none ∧ H' p' = some (.lst (LI (tn u ns)))) t ⟨0, p, rfl, by omega, e13, hpH, h3⟩ fun m σ' H' hw => ?_
    obtain ⟨u, p', rfl, hu, eH, hp', h'⟩ := hw
    have hsu := hs.tn u
    refine ⟨decide (0 < (m : Int)) && decide (V.str (mko (marks (tn u ns))) = V.str ("" : Str)), et_and (et_test (ev_opI0 (ev_var rfl) ev_c)) fun _ => et_test (ev_eqS (ev_call (ea_cons (ev_var rfl) ea_nil) (spv_marks_of h' hsu)) ev_c rfl), fun hb H4 e4 => ?_, fun hb H4 e4 => ?_⟩
    · rw [Bool.and_eq_true] at hb
      have hm0 := of_decide_eq_true hb.1
      refine ⟨fun σ2 H5 => ∃ p2, σ2 = [some (.ref a), some (.int ((m : Int) - 1)), some (.ref p2), none, none] ∧ Ex H H5 ∧ H p2 = none ∧ H5 p2 = some (.lst (LI (tn (u + 1) ns))), fun σ2 H5 hN => ?_, ?_⟩
      · obtain ⟨p2, rfl, eH5, hp2, h5⟩ := hN
        refine ⟨m - 1, by omega, u + 1, p2, ?_, by omega, eH5, hp2, h5⟩
        rw [show ((m : Int) - 1) = ((m - 1 : Nat) : Int) by omega]
      · refine q_asgL (el_call (ea_cons (ev_var rfl) ea_nil) (spl_turn_of (e4 p' _ h') hsu)) fun p2 H5 hp2 e5 h5 => ?_
        refine s_aug (a := (m : Int)) (b := 1) rfl ev_c fun H6 e6 => ⟨p2, rfl, ((eH.trans e4).trans e5).trans e6, fresh_back (eH.trans e4) hp2, ?_⟩
        rw [tn_succ]
        exact e6 p2 _ h5
    · refine q_asg (ev_call (ea_cons (ev_var rfl) ea_nil) (spv_marks_of (e4 p' _ h') hsu)) fun H5 e5 => ?_
      have h5 := e5 p' _ (e4 p' _ h')
      have eH5 := (eH.trans e4).trans e5
      refine q_when (et_or (et_test (ev_eqS (ev_var rfl) ev_c rfl)) fun _ => et_test (ev_eqS (ev_var rfl) ev_c rfl)) (fun hb2 H6 e6 => ?_) fun hb2 H6 e6 => ?_
      · have hm0 : m = 0 := by
          rw [Bool.or_eq_true] at hb2
          rcases hb2 with h | h
          · have := V.int.inj (of_decide_eq_true h); omega
          · rcases Nat.eq_zero_or_pos m with h0 | h0
            · exact h0
            · rw [h, decide_eq_true (by omega)] at hb
              cases hb
        subst hm0
        have e : u = t := by omega
        subst e
        exact s_ret (ev_var rfl) fun H7 e7 => q p' H7 hp' (eH5.trans (e6.trans e7)) (e7 p' _ (e6 p' _ h5))
      · rw [Bool.or_eq_false_iff] at hb2
        have hm0 : m ≠ 0 := fun e => of_decide_eq_false hb2.1 (by rw [e]; rfl)
        have hmk : mko (marks (tn u ns)) ≠ ("" : Str) := fun e => of_decide_eq_false hb2.2 (by rw [e])
        obtain ⟨bs, hbs, hmb, hb0⟩ := mko_some hmk
        have hbl : bs.length = stairs (tn u ns).sum + 1 := marks_len hbs
        have hb28 : bs.length ≤ 28 := by have := stairs_400 hsu.sm; omega
        rw [hmb]
        have hlen : ∀ {σ : L2.St} {H : Hp}, σ[3]? = some (some (.str (mk bs))) → Ev (tCB (fun xs H Q => ∃ z, xs = [.str z] ∧ z.length ≤ sizeLine ∧ Q (.int z.length) H) (tCons (tVar 3) tNil)) σ H (.int (bs.length : Int)) := fun {σ H} h => by
          have := ev_lenS (H := H) (ev_var h) (by rw [mk_len]; omega)
          rw [mk_len] at this
          exact this
        refine q_asg (ev_opI (ev_var rfl) (hlen rfl) (by show (0 : Int) < bs.length; omega)) fun H7 e7 => ?_
        have hmod : ((m : Int) % (bs.length : Int)) = ((m % bs.length : Nat) : Int) := rfl
        have hmlt : m % bs.length < bs.length := Nat.mod_lt _ (by omega)
        have hsub : (bs.length : Int) - ((m % bs.length : Nat) : Int) = ((bs.length - m % bs.length : Nat) : Int) := by omega
        have hrk : tn t ns = stand (rotk (m % bs.length) bs) := by
          have hbn : bs ≠ [] := fun z => by rw [z] at hbl; simp at hbl
          rw [← tn_rot hbn, marks_stand hsu.pos hbs, ← tn_add, hu]
        refine s_retL (xs := LI (tn t ns)) ?_ fun p3 H8 hp3 e8 h8 => q p3 H8 (fresh_back (eH5.trans (e6.trans e7)) hp3) ((eH5.trans (e6.trans e7)).trans e8) h8
        rw [hrk]
        refine el_call (vs := [.int ((bs.length : Int) - 1), .str (mk (rotk (m % bs.length) bs))]) (ea_cons (ev_opI0 (hlen rfl) ev_c) (ea_cons ?_ ea_nil)) (spl_standing (by rw [rotk_len]; omega) (by rw [rotk_len]; omega))
        have hadd : mk (rotk (m % bs.length) bs) = cutS (mk bs) (some ((bs.length : Int) - ((m % bs.length : Nat) : Int))) none ++ cutS (mk bs) none (some ((bs.length : Int) - ((m % bs.length : Nat) : Int))) := by
          rw [cut_drop hsub (by omega), cut_take hsub (by omega), mk_append]; rfl
        rw [hadd]
        refine ev_addS (ev_slS (ev_var rfl) (eo_some (ev_opI0 (hlen rfl) (ev_var rfl))) eo_none (by rw [mk_len]; omega)) (ev_slS (ev_var rfl) eo_none (eo_some (ev_opI0 (hlen rfl) (ev_var rfl))) (by rw [mk_len]; omega)) ?_
        rw [cut_drop hsub (by omega), cut_take hsub (by omega), mk_len, mk_len, List.length_drop, List.length_take]
        omega
end
end Cw
namespace Cw
open PySem PySem.Spec PyProof.Rows L2 Evl Ch
local macro_rules | `(tactic| walk_at "cond") => `(tactic| first | omega | decide | (show _ ∧ _; constructor <;> first | omega | decide) | (show _ ∨ _; first | (left; constructor <;> omega) | (right; constructor <;> omega)) | (show _ ∧ _ ∧ _; refine ⟨?_, ?_, ?_⟩ <;> first | omega | decide))
local macro_rules | `(tactic| walk_at "ev") => `(tactic| first | ((with_reducible apply ev_var); rfl) | (with_reducible exact ev_c) | ((with_reducible apply ev_opI0) <;> walk_at "ev") | ((with_reducible apply ev_opI); walk_at "ev"; walk_at "ev"; walk_at "cond") | ((with_reducible apply ev_eqS); walk_at "ev"; walk_at "ev"; rfl) | ((with_reducible apply ev_neS); walk_at "ev"; walk_at "ev"; rfl) | ((with_reducible apply ev_isi); walk_at "ev"; walk_at "ev"; (first | exact ty_int | exact ty_bl | exact ty_str | exact ty_lst (by assumption)); (first | exact kit_ty (r := true) (by decide +kernel) | exact kit_ty (r := false) (by decide +kernel))) | ((with_reducible apply ev_notV); walk_at "ev") | ((with_reducible apply ev_sum); walk_at "ev"; exact sq_of (by assumption)) | (apply ev_len; walk_at "ev"; exact sq_of (by assumption)))
local macro_rules | `(tactic| walk_at "et") => `(tactic| first | ((with_reducible apply et_test); walk_at "ev") | ((with_reducible apply et_B); walk_at "ev") | ((with_reducible apply et_not); walk_at "et"))
section
variable {P : Program} {w : World} {K : PySem.W.Frag} {mg : Str → Option Value} {base : Heap}
theorem spv_num {i m : Int} {H : Hp} : SpV sp_is_number [.int i, .int m] H (.bl (decide (m ≤ i))) := spv_is_number (.int i)
def rF (x y : V) : List (Str × V) := putF "marks" y (putF "stairs" x [])
def sF (x : V) : List (Str × V) := putF "turns" x []
def rfs : List V → List (Str × V)
  | [x, y] => rF x y
  | _ => []
def sfs : List V → List (Str × V)
  | [x] => sF x
  | _ => []
theorem ms_ne : ¬ (("stairs" : Str) = "marks") := by decide +kernel
theorem rF_eq (x y : V) : rF x y = ([("stairs", x), ("marks", y)] : List (Str × V)) := by
  show (if ("stairs" : Str) = "marks" then [(("stairs" : Str), y)] else (("stairs" : Str), x) :: putF "marks" y []) = _
  rw [if_neg ms_ne]
  rfl
theorem rF_stairs (x y : V) : (rF x y).lookup ("stairs" : Str) = some x := by
  unfold rF
  rw [lookup_putF, if_neg ms_ne, lookup_putF, if_pos rfl]
theorem rF_marks (x y : V) : (rF x y).lookup ("marks" : Str) = some y := by
  unfold rF
  rw [lookup_putF, if_pos rfl]
theorem rF_no (x y : V) {m : Str} (h1 : ¬ m = "marks") (h2 : ¬ m = "stairs") : (rF x y).lookup m = none := by
  unfold rF
  rw [lookup_putF, if_neg h1, lookup_putF, if_neg h2]
  rfl
theorem sF_turns (x : V) : (sF x).lookup ("turns" : Str) = some x := by
  unfold sF
  rw [lookup_putF, if_pos rfl]
theorem sF_no (x : V) {m : Str} (h1 : ¬ m = "turns") : (sF x).lookup m = none := by
  unfold sF
  rw [lookup_putF, if_neg h1]
  rfl
structure Clx (K : PySem.W.Frag) (R S : Addr) : Prop where
  clR : Cls K R
  nRs : NoAttr K R "stairs"
  nRm : NoAttr K R "marks"
  clS : Cls K S
  nSt : NoAttr K S "turns"
theorem ok_Round___init__ {f : Addr} {fd : FuncData} {R S : Addr} (T : Tx mg) (C : Clx K R S) (F : Fun K "__init__" "Round.__init__" s_Round___init__ f fd) : FnOk P w K mg base CX0 1 f fd ["self", "stairs", "marks"] (spInit R 2 rfs) := by
  refine F.ok sc_Round___init__ (fun vs H Q E h => ?_) (fun cdv A outer s H vs Q E hr h => ?_)
  · obtain ⟨_, _, us, rfl, hl, _⟩ := h
    rw [List.length_cons, hl]; rfl
  · obtain ⟨p, dx, us, rfl, hl, hp, k⟩ := h
    match us, hl with
    | [x, y], _ =>
      refine ⟨_, (pss_cons (ps_fld (pv 0) (pv 1) rfl)
      (pss_one (ps_fld (pv 0) (pv 2) rfl))), ?_⟩
      refine ⟨_, rfl, _, rfl, p, R, dx, [], rfl, hp, C.clR, C.nRs, (by show 0 < 1000; decide), ?_⟩
      refine ⟨_, rfl, _, rfl, p, R, dx, _, rfl, upd_same, C.clR, C.nRm, (by show 1 < 1000; decide), ?_⟩
      exact k _ (fun b o hb hne => by rw [upd_ne hne, upd_ne hne]; exact hb) upd_same
theorem ok_Straight___init__ {f : Addr} {fd : FuncData} {R S : Addr} (T : Tx mg) (C : Clx K R S) (F : Fun K "__init__" "Straight.__init__" s_Straight___init__ f fd) : FnOk P w K mg base CX0 1 f fd ["self", "turns"] (spInit S 1 sfs) := by
  refine F.ok sc_Straight___init__ (fun vs H Q E h => ?_) (fun cdv A outer s H vs Q E hr h => ?_)
  · obtain ⟨_, _, us, rfl, hl, _⟩ := h
    rw [List.length_cons, hl]; rfl
  · obtain ⟨p, dx, us, rfl, hl, hp, k⟩ := h
    match us, hl with
    | [x], _ =>
      refine ⟨_, (pss_one (ps_fld (pv 0) (pv 1) rfl)), ?_⟩
      refine ⟨_, rfl, _, rfl, p, S, dx, [], rfl, hp, C.clS, C.nSt, (by show 0 < 1000; decide), ?_⟩
      exact k _ (fun b o hb hne => by rw [upd_ne hne]; exact hb) upd_same
/-- what Round.shows says -/
def shR (s : Int) (m : Str) (ns : List Nat) : Bool := match marks ns with
  | none => false
  | some bs => decide (mk bs = m) && (decide (0 ≤ s) && decide (s = (bs.length : Int) - 1))
def sp_Round_shows (R : Addr) : Sp := fun vs H Q _ => ∃ (p dx a : Addr) (s : Int) (m : Str) (ns : List Nat), vs = [.ref p, .ref a] ∧ H p = some (.ins R dx (rF (.int s) (.str m))) ∧ H a = some (.lst (LI ns)) ∧ Hs ns ∧ RetV (.bl (shR s m ns)) H Q
theorem spv_Round_shows {R p dx a : Addr} {s : Int} {m : Str} {ns : List Nat} {H : Hp} (hp : H p = some (.ins R dx (rF (.int s) (.str m)))) (h : H a = some (.lst (LI ns))) (hs : Hs ns) : SpV (sp_Round_shows R) [.ref p, .ref a] H (.bl (shR s m ns)) := fun H1 e Q q E => ⟨p, dx, a, s, m, ns, rfl, e p _ hp, e a _ h, hs, q⟩
theorem ok_Round_shows {f : Addr} {fd : FuncData} {R S : Addr} (T : Tx mg) (C : Clx K R S) (F : Fun K "shows" "Round.shows" s_Round_shows f fd) (c_is_number : Cal P w K mg base 1 "is_number" sp_is_number) (c_marks_of : Cal P w K mg base 2 "marks_of" sp_marks_of) : FnOk P w K mg base CX0 3 f fd ["self", "heaps"] (sp_Round_shows R) := by
  refine F.ok sc_Round_shows (fun vs H Q E h => ?_) (fun cdv A outer s H vs Q E hr h => ?_)
  · obtain ⟨_, _, _, _, _, _, rfl, _⟩ := h
    rfl
  · obtain ⟨p, dx, a, s, m, ns, rfl, hp, ha, hs, q⟩ := h
    refine ⟨_, (pss_cons (ps_set (i := 2) sc_Round_shows.nd rfl (Or.inl rfl) (pe_c c_marks_of hr (by decide) (by rfl) (pa_cons (pv 1) pa_nil)))
      (pss_one (ps_ret (pe_and (pe_cmpR op_ne (pv 2) pe_str (nomark _)) (pe_and (pe_cmpR op_eq (pv 2) (pe_fld (pv 0) rfl) (nomark _)) (pe_and (pe_c c_is_number hr (by decide) (by rfl) (pa_cons (pe_fld (pv 0) rfl) (pa_cons pe_int pa_nil))) (pe_one (pe_cmpR op_eq (pe_fld (pv 0) rfl) (pe_op op_sub (pe_callB call_len_str (by rfl) T.b_len PySem.boot_len (pa_cons (pv 2) pa_nil)) pe_int) (nomark _))))))))), ?_⟩
    refine q_asg (ev_call (ea_cons (ev_var rfl) ea_nil) (spv_marks_of ha hs)) fun H1 e1 => ?_
    have hp1 := e1 p _ hp
    cases hm : marks ns with
    | none =>
      have e : shR s m ns = false := by unfold shR; rw [hm]
      rw [e] at q
      refine s_ret (v := .bl (false && false)) (ev_andV (ev_bl (ev_neS (ev_var rfl) ev_c rfl) (by show (!decide (V.str ("" : Str) = V.str ("" : Str))) = false; rw [decide_eq_true rfl]; rfl)) fun h => nomatch h) fun H2 e2 => q H2 (e1.trans e2)
    | some bs =>
      have e : shR s m ns = (decide (mk bs = m) && (decide (0 ≤ s) && decide (s = (bs.length : Int) - 1))) := by unfold shR; rw [hm]
      rw [e] at q
      have hbl : bs.length ≤ 28 := by
        have := marks_len hm
        have := stairs_400 hs.sm
        omega
      have hne : decide (V.str (mk bs) = V.str ("" : Str)) = false := decide_eq_false fun z => marks_ne hm (mk_eq_nil.mp (V.str.inj z))
      have d1 : decide (V.str (mk bs) = V.str m) = decide (mk bs = m) := by
        by_cases h : mk bs = m
        · rw [decide_eq_true h, decide_eq_true (by rw [h])]
        · rw [decide_eq_false h, decide_eq_false fun z => h (V.str.inj z)]
      have d2 : decide (V.int s = V.int (((mk bs).length : Int) - 1)) = decide (s = (bs.length : Int) - 1) := by
        rw [mk_len]
        by_cases h : s = (bs.length : Int) - 1
        · rw [decide_eq_true h, decide_eq_true (by rw [h])]
        · rw [decide_eq_false h, decide_eq_false fun z => h (V.int.inj z)]
      refine s_ret (v := .bl (true && (decide (mk bs = m) && (decide (0 ≤ s) && decide (s = (bs.length : Int) - 1))))) (ev_andV (ev_bl (ev_neS (ev_var rfl) ev_c rfl) (by show (!decide (V.str (mk bs) = V.str ("" : Str))) = true; rw [hne]; rfl)) fun _ => ev_andV (ev_bl (ev_eqS (ev_var rfl) (ev_fld (ev_var rfl) hp1 C.clR C.nRm (rF_marks _ _)) rfl) d1) fun _ => ev_andV (ev_call (ea_cons (ev_fld (ev_var rfl) hp1 C.clR C.nRs (rF_stairs _ _)) (ea_cons ev_c ea_nil)) spv_num) fun _ => ev_bl (ev_eqS (ev_fld (ev_var rfl) hp1 C.clR C.nRs (rF_stairs _ _)) (ev_opI0 (g := fun i j => .int (i - j)) (ev_lenS (ev_var rfl) (by show (mk bs).length ≤ _; rw [mk_len]; omega)) ev_c) rfl) d2) fun H2 e2 => ?_
      rw [Bool.true_and]
      exact q H2 (e1.trans e2)
/-- what Straight.shows says -/
def shS (t : Int) (ns : List Nat) : Bool := decide (1 ≤ t) && decide (t = (tt ns : Nat))
def sp_Straight_shows (S : Addr) : Sp := fun vs H Q _ => ∃ (p dx a : Addr) (t : Int) (ns : List Nat), vs = [.ref p, .ref a] ∧ H p = some (.ins S dx (sF (.int t))) ∧ H a = some (.lst (LI ns)) ∧ Hs ns ∧ RetV (.bl (shS t ns)) H Q
theorem spv_Straight_shows {S p dx a : Addr} {t : Int} {ns : List Nat} {H : Hp} (hp : H p = some (.ins S dx (sF (.int t)))) (h : H a = some (.lst (LI ns))) (hs : Hs ns) : SpV (sp_Straight_shows S) [.ref p, .ref a] H (.bl (shS t ns)) := fun H1 e Q q E => ⟨p, dx, a, t, ns, rfl, e p _ hp, e a _ h, hs, q⟩
theorem ok_Straight_shows {f : Addr} {fd : FuncData} {R S : Addr} (T : Tx mg) (C : Clx K R S) (F : Fun K "shows" "Straight.shows" s_Straight_shows f fd) (c_is_number : Cal P w K mg base 1 "is_number" sp_is_number) (c_marks_of : Cal P w K mg base 2 "marks_of" sp_marks_of) (c_turns_to : Cal P w K mg base 3 "turns_to" sp_turns_to) : FnOk P w K mg base CX0 4 f fd ["self", "heaps"] (sp_Straight_shows S) := by
  refine F.ok sc_Straight_shows (fun vs H Q E h => ?_) (fun cdv A outer s H vs Q E hr h => ?_)
  · obtain ⟨_, _, _, _, _, rfl, _⟩ := h
    rfl
  · obtain ⟨p, dx, a, t, ns, rfl, hp, ha, hs, q⟩ := h
    refine ⟨_, (pss_cons (ps_if (PW.pt (pw_or (pt_not (pt_val (pe_c c_is_number hr (by decide) (by rfl) (pa_cons (pe_fld (pv 0) rfl) (pa_cons pe_int pa_nil))))) (pw_or1 (pt_cmpR op_ne (pe_c c_marks_of hr (by decide) (by rfl) (pa_cons (pv 1) pa_nil)) pe_str (nomark _))))) (pss_one (ps_ret pe_bl)) pss_nil)
      (pss_one (ps_ret (pe_cmpR op_eq (pe_fld (pv 0) rfl) (pe_c c_turns_to hr (by decide) (by rfl) (pa_cons (pv 1) pa_nil)) (nomark _))))), ?_⟩
    refine q_when (et_or (et_not (et_B (ev_call (ea_cons (ev_fld (ev_var rfl) hp C.clS C.nSt (sF_turns _)) (ea_cons ev_c ea_nil)) spv_num))) fun _ => et_test (ev_neS (ev_call (ea_cons (ev_var rfl) ea_nil) (spv_marks_of ha hs)) ev_c rfl)) (fun hb H1 e1 => ?_) fun hb H1 e1 => ?_
    · have e : shS t ns = false := by
        unfold shS
        rw [Bool.or_eq_true] at hb
        rcases hb with h | h
        · have h1 : decide (1 ≤ t) = false := by
            cases hd : decide (1 ≤ t) with
            | false => rfl
            | true => rw [hd] at h; cases h
          rw [h1]; rfl
        · have hm : marks ns ≠ none := fun z => by rw [z] at h; simp [mko] at h
          have h0 := (tt_zero hs).mpr hm
          rw [h0]
          by_cases h1 : 1 ≤ t
          · rw [decide_eq_false (show ¬ t = ((0 : Nat) : Int) by omega), Bool.and_false]
          · rw [decide_eq_false h1]; rfl
      rw [e] at q
      exact s_ret ev_c fun H2 e2 => q H2 (e1.trans e2)
    · rw [Bool.or_eq_false_iff] at hb
      have h1 : decide (1 ≤ t) = true := by
        cases hd : decide (1 ≤ t) with
        | true => rfl
        | false => rw [hd] at hb; cases hb.1
      have e : shS t ns = decide (t = (tt ns : Nat)) := by unfold shS; rw [h1, Bool.true_and]
      rw [e] at q
      refine s_ret (ev_bl (ev_eqS (ev_fld (ev_var rfl) (e1 p _ hp) C.clS C.nSt (sF_turns _)) (ev_call (ea_cons (ev_var rfl) ea_nil) (spv_turns_to (e1 a _ ha) hs)) rfl) ?_) fun H2 e2 => q H2 (e1.trans e2)
      by_cases h : t = (tt ns : Nat)
      · rw [decide_eq_true h, decide_eq_true (by rw [h])]
      · rw [decide_eq_false h, decide_eq_false fun z => h (V.int.inj z)]
end
end Cw
namespace Cw
open PySem PySem.Spec PyProof.Rows L2 Evl Ch
local macro_rules | `(tactic| walk_at "cond") => `(tactic| first | omega | decide | (show _ ∧ _; constructor <;> first | omega | decide) | (show _ ∨ _; first | (left; constructor <;> omega) | (right; constructor <;> omega)) | (show _ ∧ _ ∧ _; refine ⟨?_, ?_, ?_⟩ <;> first | omega | decide))
local macro_rules | `(tactic| walk_at "ev") => `(tactic| first | ((with_reducible apply ev_var); rfl) | (with_reducible exact ev_c) | ((with_reducible apply ev_opI0) <;> walk_at "ev") | ((with_reducible apply ev_opI); walk_at "ev"; walk_at "ev"; walk_at "cond") | ((with_reducible apply ev_eqS); walk_at "ev"; walk_at "ev"; rfl) | ((with_reducible apply ev_neS); walk_at "ev"; walk_at "ev"; rfl) | ((with_reducible apply ev_isi); walk_at "ev"; walk_at "ev"; (first | exact ty_int | exact ty_bl | exact ty_str | exact ty_lst (by assumption)); (first | exact kit_ty (r := true) (by decide +kernel) | exact kit_ty (r := false) (by decide +kernel))) | ((with_reducible apply ev_notV); walk_at "ev") | ((with_reducible apply ev_sum); walk_at "ev"; exact sq_of (by assumption)) | (apply ev_len; walk_at "ev"; exact sq_of (by assumption)))
local macro_rules | `(tactic| walk_at "et") => `(tactic| first | ((with_reducible apply et_test); walk_at "ev") | ((with_reducible apply et_B); walk_at "ev") | ((with_reducible apply et_not); walk_at "et"))
section
variable {P : Program} {w : World} {K : PySem.W.Frag} {mg : Str → Option Value} {base : Heap}
/-- what told tells -/
def isTold (R S : Addr) (ns : List Nat) : V → Hp → Prop := match marks ns with
  | some bs => isIns R (rF (.int ((bs.length : Int) - 1)) (.str (mk bs)))
  | none => isIns S (sF (.int (tt ns : Nat)))
theorem mo_told {R S : Addr} {ns : List Nat} : Mo (isTold R S ns) := by
  unfold isTold
  cases marks ns with
  | none => exact mo_ins
  | some bs => exact mo_ins
theorem told_some {R S : Addr} {ns : List Nat} {bs : List Bool} (h : marks ns = some bs) : isTold R S ns = isIns R (rF (.int ((bs.length : Int) - 1)) (.str (mk bs))) := by unfold isTold; rw [h]
theorem told_none {R S : Addr} {ns : List Nat} (h : marks ns = none) : isTold R S ns = isIns S (sF (.int (tt ns : Nat))) := by unfold isTold; rw [h]
def sp_told (R S BH : Addr) : Sp := fun vs H Q E => ∃ v, vs = [v] ∧ ((∃ (a : Addr) (ns : List Nat), v = .ref a ∧ H a = some (.lst (LI ns)) ∧ Hs ns ∧ RetP (isTold R S ns) H Q) ∨ (BadH v H ∧ Out BH H E))
theorem ok_told {f : Addr} {fd : FuncData} {BH : Addr} {R S : Addr} (T : Tx mg) (C : Clx K R S) (F : Fun K "told" "told" s_told f fd) (m_Round : CMk P w K mg base 1 "Round" R (spInit R 2 rfs)) (m_Straight : CMk P w K mg base 1 "Straight" S (spInit S 1 sfs)) (c_check_heaps : CalX P w K mg base 2 "check_heaps" (sp_check_heaps BH)) (c_marks_of : Cal P w K mg base 2 "marks_of" sp_marks_of) (c_turns_to : Cal P w K mg base 3 "turns_to" sp_turns_to) : FnOk P w K mg base (L2N.CX P w) 4 f fd ["heaps"] (sp_told R S BH) := by
  refine F.okN sc_told (fun vs H Q E h => ?_) (fun cdv A outer s H vs Q E hr h => ?_)
  · obtain ⟨_, rfl, _⟩ := h
    rfl
  · obtain ⟨v, rfl, h⟩ := h
    refine ⟨_, (pss_cons (ps_expr (pe_cX c_check_heaps hr (by decide) (by rfl) (L2N.takes_of rfl rfl rfl rfl) (pa_cons (pv 0) pa_nil)))
      (PSs.nox (pss_cons (ps_set (i := 1) sc_told.nd rfl (Or.inl rfl) (pe_c c_marks_of hr (by decide) (by rfl) (pa_cons (pv 0) pa_nil)))
      (pss_cons (ps_if (pt_cmpR op_ne (pv 1) pe_str (nomark _)) (pss_one (ps_ret (pe_mk m_Round hr (by decide) (by rfl) (pa_cons (pe_op op_sub (pe_callB call_len_str (by rfl) T.b_len PySem.boot_len (pa_cons (pv 1) pa_nil)) pe_int) (pa_cons (pv 1) pa_nil))))) pss_nil)
      (pss_one (ps_ret (pe_mk m_Straight hr (by decide) (by rfl) (pa_cons (pe_c c_turns_to hr (by decide) (by rfl) (pa_cons (pv 0) pa_nil)) pa_nil)))))))), ?_⟩
    refine q_dropS (ea_cons (ev_var rfl) ea_nil) fun H0 e0 => ⟨v, rfl, ?_⟩
    rcases h with h | ⟨hb, q⟩
    rotate_left
    · exact .inr ⟨hb.mono e0, fun H2 e2 => q H2 (e0.trans e2)⟩
    obtain ⟨a, ns, rfl, ha, hs, q⟩ := h
    refine .inl ⟨a, ns, rfl, e0 a _ ha, hs, fun H1 e01 => ?_⟩
    have e1 := e0.trans e01
    have ha1 := e1 a _ ha
    refine q_asg (ev_call (ea_cons (ev_var rfl) ea_nil) (spv_marks_of ha1 hs)) fun H2 e2 => ?_
    cases hm : marks ns with
    | none =>
      rw [told_none hm] at q
      refine q_when (b := false) (et_is (et_test (ev_neS (ev_var rfl) ev_c rfl)) (by show (!decide (V.str ("" : Str) = V.str ("" : Str))) = false; rw [decide_eq_true rfl]; rfl)) (fun h => nomatch h) fun _ H3 e3 => ?_
      exact s_retP (ep_make (vs := [.int (tt ns : Nat)]) (ea_cons (ev_call (ea_cons (ev_var rfl) ea_nil) (spv_turns_to (e3 a _ (e2 a _ ha1)) hs)) ea_nil) rfl) fun v H4 e4 hv => q v H4 (((e1.trans e2).trans e3).trans e4) hv
    | some bs =>
      rw [told_some hm] at q
      have hbl : bs.length ≤ 28 := by
        have := marks_len hm
        have := stairs_400 hs.sm
        omega
      have hne : decide (V.str (mk bs) = V.str ("" : Str)) = false := decide_eq_false fun z => marks_ne hm (mk_eq_nil.mp (V.str.inj z))
      refine q_when (b := true) (et_is (et_test (ev_neS (ev_var rfl) ev_c rfl)) (by show (!decide (V.str (mk bs) = V.str ("" : Str))) = true; rw [hne]; rfl)) (fun _ H3 e3 => ?_) (fun h => nomatch h)
      exact s_retP (ep_make (vs := [.int ((bs.length : Int) - 1), .str (mk bs)]) (ea_cons (ev_i (ev_opI0 (g := fun i j => .int (i - j)) (ev_lenS (ev_var rfl) (by show (mk bs).length ≤ _; rw [mk_len]; omega)) ev_c) (by show ((mk bs).length : Int) - 1 = _; rw [mk_len])) (ea_cons (ev_var rfl) ea_nil)) rfl) fun v H4 e4 hv => q v H4 (((e1.trans e2).trans e3).trans e4) hv
end
end Cw
namespace Cw
open PySem PySem.Spec PyProof.Rows L2 Evl Ch
local macro_rules | `(tactic| walk_at "cond") => `(tactic| first | omega | decide | (show _ ∧ _; constructor <;> first | omega | decide) | (show _ ∨ _; first | (left; constructor <;> omega) | (right; constructor <;> omega)) | (show _ ∧ _ ∧ _; refine ⟨?_, ?_, ?_⟩ <;> first | omega | decide))
local macro_rules | `(tactic| walk_at "ev") => `(tactic| first | ((with_reducible apply ev_var); rfl) | (with_reducible exact ev_c) | ((with_reducible apply ev_opI0) <;> walk_at "ev") | ((with_reducible apply ev_opI); walk_at "ev"; walk_at "ev"; walk_at "cond") | ((with_reducible apply ev_eqS); walk_at "ev"; walk_at "ev"; rfl) | ((with_reducible apply ev_neS); walk_at "ev"; walk_at "ev"; rfl) | ((with_reducible apply ev_isi); walk_at "ev"; walk_at "ev"; (first | exact ty_int | exact ty_bl | exact ty_str | exact ty_lst (by assumption)); (first | exact kit_ty (r := true) (by decide +kernel) | exact kit_ty (r := false) (by decide +kernel))) | ((with_reducible apply ev_notV); walk_at "ev") | ((with_reducible apply ev_sum); walk_at "ev"; exact sq_of (by assumption)) | (apply ev_len; walk_at "ev"; exact sq_of (by assumption)))
local macro_rules | `(tactic| walk_at "et") => `(tactic| first | ((with_reducible apply et_test); walk_at "ev") | ((with_reducible apply et_B); walk_at "ev") | ((with_reducible apply et_not); walk_at "et"))
section
variable {P : Program} {w : World} {K : PySem.W.Frag} {mg : Str → Option Value} {base : Heap}
def sp_common : Sp := fun vs H Q _ => ∃ a b : Nat, vs = [.int (a : Int), .int (b : Int)] ∧ RetV (.int (Nat.gcd a b : Nat)) H Q
theorem spv_common {a b : Nat} {H : Hp} : SpV sp_common [.int (a : Int), .int (b : Int)] H (.int (Nat.gcd a b : Nat)) := fun H1 e Q q E => ⟨a, b, rfl, q⟩
theorem gcd_turn (x y : Nat) : Nat.gcd x y = Nat.gcd y (x % y) := by rw [Nat.gcd_comm x y, Nat.gcd_rec y x, Nat.gcd_comm]
theorem ok_common {f : Addr} {fd : FuncData} (T : Tx mg) (F : Fun K "common" "common" s_common f fd) : FnOk P w K mg base CX0 1 f fd ["one", "other"] sp_common := by
  refine F.ok sc_common (fun vs H Q E h => ?_) (fun cdv A outer s H vs Q E hr h => ?_)
  · obtain ⟨_, _, rfl, _⟩ := h
    rfl
  · obtain ⟨a, b, rfl, q⟩ := h
    refine ⟨_, (pss_cons (ps_while PassesOwn.never (pt_cmpR op_gt (pv 1) pe_int (nomark _)) (pss_one (ps_par (i := 0) (j := 1) (by rfl) sc_common.nd rfl rfl (by decide) rfl rfl (pa_cons (pv 1) (pa_cons (pe_op op_mod (pv 0) (pv 1)) pa_nil)) (by rfl))))
      (pss_one (ps_ret (pv 0)))), ?_⟩
    refine q_while (fun m σ' H' => ∃ x : Nat, σ' = [some (.int (x : Int)), some (.int (m : Int))] ∧ Nat.gcd x m = Nat.gcd a b ∧ Ex H H') b ⟨a, rfl, rfl, Ex.refl H⟩ fun m σ' H' hw => ?_
    obtain ⟨x, rfl, hg, eH⟩ := hw
    refine ⟨decide (0 < (m : Int)), et_test (ev_opI0 (ev_var rfl) ev_c), fun hb H2 e2 => ?_, fun hb H2 e2 => ?_⟩
    · have hb' := of_decide_eq_true hb
      refine ⟨fun σ2 H3 => σ2 = [some (.int (m : Int)), some (.int ((x % m : Nat) : Int))] ∧ Ex H H3, fun σ2 H3 hN => ⟨x % m, Nat.mod_lt _ (by omega), m, hN.1, by rw [← gcd_turn]; exact hg, hN.2⟩, ?_⟩
      have e : EvA (tCons (tVar 1) (tCons (tOp (rI (fun _ j => 0 < j) fun i j => .int (i % j)) (tVar 0) (tVar 1)) tNil)) [some (.int (x : Int)), some (.int (m : Int))] H2 [.int (m : Int), .int ((x : Int) % (m : Int))] := ea_cons (ev_var rfl) (ea_cons (ev_opI (g := fun i j => .int (i % j)) (ev_var rfl) (ev_var rfl) hb') ea_nil)
      exact e H2 (Ex.refl H2) _ fun H3 e3 => ⟨_, _, rfl, rfl, (eH.trans e2).trans e3⟩
    · have hb' := of_decide_eq_false hb
      have h0 : m = 0 := by omega
      subst h0
      rw [← hg, Nat.gcd_zero_right] at q
      exact s_ret (ev_var rfl) fun H3 e3 => q H3 ((eH.trans e2).trans e3)
end
end Cw
namespace Cw
open PySem PySem.Spec PyProof.Rows L2 Evl Ch
local macro_rules | `(tactic| walk_at "cond") => `(tactic| first | omega | decide | (show _ ∧ _; constructor <;> first | omega | decide) | (show _ ∨ _; first | (left; constructor <;> omega) | (right; constructor <;> omega)) | (show _ ∧ _ ∧ _; refine ⟨?_, ?_, ?_⟩ <;> first | omega | decide))
local macro_rules | `(tactic| walk_at "ev") => `(tactic| first | ((with_reducible apply ev_var); rfl) | (with_reducible exact ev_c) | ((with_reducible apply ev_opI0) <;> walk_at "ev") | ((with_reducible apply ev_opI); walk_at "ev"; walk_at "ev"; walk_at "cond") | ((with_reducible apply ev_eqS); walk_at "ev"; walk_at "ev"; rfl) | ((with_reducible apply ev_neS); walk_at "ev"; walk_at "ev"; rfl) | ((with_reducible apply ev_isi); walk_at "ev"; walk_at "ev"; (first | exact ty_int | exact ty_bl | exact ty_str | exact ty_lst (by assumption)); (first | exact kit_ty (r := true) (by decide +kernel) | exact kit_ty (r := false) (by decide +kernel))) | ((with_reducible apply ev_notV); walk_at "ev") | ((with_reducible apply ev_sum); walk_at "ev"; exact sq_of (by assumption)) | (apply ev_len; walk_at "ev"; exact sq_of (by assumption)))
local macro_rules | `(tactic| walk_at "et") => `(tactic| first | ((with_reducible apply et_test); walk_at "ev") | ((with_reducible apply et_B); walk_at "ev") | ((with_reducible apply et_not); walk_at "et"))
section
variable {P : Program} {w : World} {K : PySem.W.Frag} {mg : Str → Option Value} {base : Heap}
def sp_picks : Sp := fun vs H Q _ => ∃ m k : Nat, vs = [.int (m : Int), .int (k : Int)] ∧ k ≤ m ∧ m ≤ 10000 ∧ RetV (.int (pk m k : Nat)) H Q
theorem spv_picks {m k : Nat} {H : Hp} (hk : k ≤ m) (hm : m ≤ 10000) : SpV sp_picks [.int (m : Int), .int (k : Int)] H (.int (pk m k : Nat)) := fun H1 e Q q E => ⟨m, k, rfl, hk, hm, q⟩
theorem ok_picks {f : Addr} {fd : FuncData} (T : Tx mg) (F : Fun K "picks" "picks" s_picks f fd) : FnOk P w K mg base CX0 1 f fd ["many", "some"] sp_picks := by
  refine F.ok sc_picks (fun vs H Q E h => ?_) (fun cdv A outer s H vs Q E hr h => ?_)
  · obtain ⟨_, _, rfl, _⟩ := h
    rfl
  · obtain ⟨m, k, rfl, hk, hm, q⟩ := h
    refine ⟨_, (pss_cons (ps_set (i := 2) sc_picks.nd rfl (Or.inl rfl) pe_int)
      (pss_cons (ps_for PassesOwn.never rfl (pi_range1 (by rfl) T.b_range (pa_cons (pv 1) pa_nil)) (pg_name (i := 3) sc_picks.nd rfl (Or.inl rfl)) (pss_one (ps_set (i := 2) sc_picks.nd rfl (Or.inl rfl) (pe_op op_fdiv (pe_op op_mul (pv 2) (pe_op op_sub (pv 0) (pv 3))) (pe_op op_add (pv 3) pe_int)))))
      (pss_one (ps_ret (pv 2))))), ?_⟩
    refine q_asg ev_c fun H1 e1 => ?_
    refine q_forR1 (n := (k : Int)) (ea_cons (ev_var rfl) ea_nil) (by omega) (fun i σ' H' => ∃ x3 : Option V, σ' = [some (.int (m : Int)), some (.int (k : Int)), some (.int (pk m i : Nat)), x3] ∧ Ex H H') (fun H2 e2 => ⟨none, rfl, e1.trans e2⟩) (fun i σ' H' hi hv => ?_) (fun σ' H' hv => ?_)
    · obtain ⟨x3, rfl, eX⟩ := hv
      have e : ((pk m i : Nat) : Int) * ((m : Int) - (i : Int)) / ((i : Int) + 1) = ((pk m (i + 1) : Nat) : Int) := by
        rw [show ((m : Int) - (i : Int)) = ((m - i : Nat) : Int) by omega]
        rfl
      exact s_asg (ev_i (ev_opI (g := fun i j => .int (i / j)) (ev_opI (g := fun i j => .int (i * j)) (ev_var rfl) (ev_opI0 (g := fun i j => .int (i - j)) (ev_var rfl) (ev_var rfl)) (.inr ⟨by omega, by omega⟩)) (ev_opI0 (g := fun i j => .int (i + j)) (ev_var rfl) ev_c) ⟨by omega, by omega⟩) e) fun H2 e2 => ⟨_, rfl, eX.trans e2⟩
    · obtain ⟨x3, rfl, eX⟩ := hv
      exact s_ret (ev_var rfl) fun H2 e2 => q H2 (eX.trans e2)
end
end Cw
namespace Cw
open PySem PySem.Spec PyProof.Rows L2 Evl Ch
local macro_rules | `(tactic| walk_at "cond") => `(tactic| first | omega | decide | (show _ ∧ _; constructor <;> first | omega | decide) | (show _ ∨ _; first | (left; constructor <;> omega) | (right; constructor <;> omega)) | (show _ ∧ _ ∧ _; refine ⟨?_, ?_, ?_⟩ <;> first | omega | decide))
local macro_rules | `(tactic| walk_at "ev") => `(tactic| first | ((with_reducible apply ev_var); rfl) | (with_reducible exact ev_c) | ((with_reducible apply ev_opI0) <;> walk_at "ev") | ((with_reducible apply ev_opI); walk_at "ev"; walk_at "ev"; walk_at "cond") | ((with_reducible apply ev_eqS); walk_at "ev"; walk_at "ev"; rfl) | ((with_reducible apply ev_neS); walk_at "ev"; walk_at "ev"; rfl) | ((with_reducible apply ev_isi); walk_at "ev"; walk_at "ev"; (first | exact ty_int | exact ty_bl | exact ty_str | exact ty_lst (by assumption)); (first | exact kit_ty (r := true) (by decide +kernel) | exact kit_ty (r := false) (by decide +kernel))) | ((with_reducible apply ev_notV); walk_at "ev") | ((with_reducible apply ev_sum); walk_at "ev"; exact sq_of (by assumption)) | (apply ev_len; walk_at "ev"; exact sq_of (by assumption)))
local macro_rules | `(tactic| walk_at "et") => `(tactic| first | ((with_reducible apply et_test); walk_at "ev") | ((with_reducible apply et_B); walk_at "ev") | ((with_reducible apply et_not); walk_at "et"))
section
variable {P : Program} {w : World} {K : PySem.W.Frag} {mg : Str → Option Value} {base : Heap}
theorem stairs_big {n : Nat} (h : n ≤ 100000) : stairs n ≤ 446 := by
  have h1 := (stairs_is n).1
  have : ¬ 447 ≤ stairs n := fun h2 => by
    have := sq_mono h2
    omega
  omega
theorem half_le {n : Nat} : stairs n * (stairs n + 1) / 2 ≤ n := by
  have h1 := (stairs_is n).1
  omega
theorem some_le {n : Nat} : n - stairs n * (stairs n + 1) / 2 ≤ stairs n + 1 := by
  have h1 := (stairs_is n).2
  have e : (stairs n + 1) * (stairs n + 2) = stairs n * (stairs n + 1) + 2 * (stairs n + 1) := by rw [Nat.mul_comm (stairs n + 1) (stairs n + 2), Nat.add_mul]
  omega
theorem half_int (s : Nat) : ((s : Int) * ((s : Int) + 1)) / 2 = ((s * (s + 1) / 2 : Nat) : Int) := by push_cast; rfl
/-- no cards that are counted -/
def BadC (v : V) (H : Hp) : Prop := ∃ ty, ThV H v ty ∧ (numV v 0 = false ∨ ∃ n : Int, v = .int n ∧ 100000 < n)
theorem BadC.mono {v : V} {H H' : Hp} (h : BadC v H) (e : Ex H H') : BadC v H' := let ⟨ty, a, b⟩ := h; ⟨ty, a.mono e, b⟩
def sp_rounds (BC : Addr) : Sp := fun vs H Q E => ∃ v, vs = [v] ∧ ((∃ n : Nat, v = .int (n : Int) ∧ n ≤ 100000 ∧ RetV (.int (rn n : Nat)) H Q) ∨ (BadC v H ∧ Out BC H E))
theorem ok_rounds {f : Addr} {fd : FuncData} {BC : Addr} (T : Tx mg) (x_BadCards : Exn K mg "BadCards" BC) (F : Fun K "rounds" "rounds" s_rounds f fd) (c_is_number : Cal P w K mg base 1 "is_number" sp_is_number) (c_stairs_of : Cal P w K mg base 1 "stairs_of" sp_stairs_of) (c_common : Cal P w K mg base 1 "common" sp_common) (c_picks : Cal P w K mg base 1 "picks" sp_picks) : FnOk P w K mg base (L2N.CX P w) 2 f fd ["cards"] (sp_rounds BC) := by
  refine F.okN sc_rounds (fun vs H Q E h => ?_) (fun cdv A outer s H vs Q E hr h => ?_)
  · obtain ⟨_, rfl, _⟩ := h
    rfl
  · obtain ⟨v, rfl, h⟩ := h
    refine ⟨_, (pss_cons (ps_if (PW.pt (pw_or (pt_not (pt_val (pe_c c_is_number hr (by decide) (by rfl) (pa_cons (pv 0) (pa_cons pe_int pa_nil))))) (pw_or1 (pt_cmpR op_gt (pv 0) (pe_gi (by rfl) T.c_MOST_COUNTED) (nomark _))))) (pss_one (ps_refuse rfl (L2N.takes_of rfl rfl rfl rfl) x_BadCards (by rfl))) pss_nil)
      (PSs.nox (pss_cons (ps_set (i := 1) sc_rounds.nd rfl (Or.inl rfl) (pe_c c_stairs_of hr (by decide) (by rfl) (pa_cons (pv 0) pa_nil)))
      (pss_cons (ps_par (i := 2) (j := 3) (by rfl) sc_rounds.nd rfl rfl (by decide) rfl rfl (pa_cons (pe_op op_add (pv 1) pe_int) (pa_cons (pe_op op_sub (pv 0) (pe_op op_fdiv (pe_op op_mul (pv 1) (pe_op op_add (pv 1) pe_int)) pe_int)) pa_nil)) (by rfl))
      (pss_cons (ps_set (i := 4) sc_rounds.nd rfl (Or.inl rfl) pe_int)
      (pss_cons (ps_for PassesOwn.never rfl (pi_range1 (by rfl) T.b_range (pa_cons (pv 2) pa_nil)) (pg_name (i := 5) sc_rounds.nd rfl (Or.inl rfl)) (pss_cons (ps_set (i := 6) sc_rounds.nd rfl (Or.inl rfl) (pe_ifExp (pt_cmpR op_gt (pv 5) pe_int (nomark _)) (pe_c c_common hr (by decide) (by rfl) (pa_cons (pv 2) (pa_cons (pv 5) pa_nil))) (pv 2)))
        (pss_one (ps_if (pt_cmpR op_eq (pe_op op_mod (pv 3) (pe_op op_fdiv (pv 2) (pv 6))) pe_int (nomark _)) (pss_one (ps_aug (i := 4) sc_rounds.nd rfl (Or.inl rfl) (pe_c c_picks hr (by decide) (by rfl) (pa_cons (pv 6) (pa_cons (pe_op op_fdiv (pv 3) (pe_op op_fdiv (pv 2) (pv 6))) pa_nil))) ip_add)) pss_nil))))
      (pss_one (ps_ret (pe_op op_fdiv (pv 4) (pv 2)))))))))), ?_⟩
    rcases h with ⟨n, rfl, hn, q⟩ | ⟨⟨ty, hty, hb⟩, q⟩
    rotate_left
    · refine q_when (b := true) (et_is (a := !numV v 0 || true) (et_or (b := true) (et_not (et_B (ev_call (ea_cons (ev_var rfl) (ea_cons ev_c ea_nil)) (spv_is_number hty)))) fun h0 => ?_) (by rw [Bool.or_true])) (fun _ H1 e1 => q H1 e1) fun h => nomatch h
      rcases hb with hb | ⟨n, rfl, hn⟩
      · rw [hb] at h0; cases h0
      · exact et_is (et_test (ev_opI0 (g := fun i j => .bl (decide (j < i))) (ev_var rfl) ev_c)) (decide_eq_true hn)
    refine q_when (b := false) (et_is (et_or (et_not (et_B (ev_call (ea_cons (ev_var rfl) (ea_cons ev_c ea_nil)) (spv_is_number (.int _))))) fun _ => et_test (ev_opI0 (g := fun i j => .bl (decide (j < i))) (ev_var rfl) ev_c)) (by show (!decide ((0 : Int) ≤ (n : Int)) || _) = false; rw [decide_eq_true (show (0 : Int) ≤ n by omega), decide_eq_false (show ¬ ((100000 : Int) < n) by omega)]; rfl)) (fun h => nomatch h) fun _ H1 e1 => ?_
    refine q_asg (ev_call (ea_cons (ev_var rfl) ea_nil) (spv_stairs_of (by omega))) fun H2 e2 => ?_
    have hs := stairs_big hn
    have hh := half_le (n := n)
    have hk := some_le (n := n)
    have erun : rn n = rdS (stairs n + 1) (n - stairs n * (stairs n + 1) / 2) / (stairs n + 1) := rfl
    rw [erun] at q
    generalize stairs n = st at *
    generalize hkk : n - st * (st + 1) / 2 = k at *
    refine q_parP (P := isV (.int ((st + 1 : Nat) : Int))) (P' := isV (.int (k : Int))) (ap_cons mo_v (ep_v (ev_i (ev_opI0 (g := fun i j => .int (i + j)) (ev_var rfl) ev_c) (by omega))) (ap_cons mo_v (ep_v (ev_i (ev_opI0 (g := fun i j => .int (i - j)) (ev_var rfl) (ev_opI (g := fun i j => .int (i / j)) (ev_opI (g := fun i j => .int (i * j)) (ev_var rfl) (ev_opI0 (g := fun i j => .int (i + j)) (ev_var rfl) ev_c) (.inl ⟨by omega, by omega⟩)) ev_c ⟨by decide, by decide⟩)) (by rw [half_int]; omega))) ap_nil)) fun v1 v2 H3 e3 p1 p2 => ?_
    cases p1
    cases p2
    generalize hm : st + 1 = m at *
    have hm0 : 0 < m := by omega
    refine q_asg ev_c fun H4 e4 => ?_
    refine q_forR1 (n := (m : Int)) (ea_cons (ev_var rfl) ea_nil) (by omega) (fun i σ' H' => ∃ x5 x6 : Option V, σ' = [some (.int (n : Int)), some (.int (st : Int)), some (.int (m : Int)), some (.int (k : Int)), some (.int (su (fun s => fP m k (m / Nat.gcd m s)) i : Nat)), x5, x6] ∧ Ex H H') (fun H5 e5 => ⟨none, none, rfl, ((e1.trans e2).trans e3).trans (e4.trans e5)⟩) (fun i σ' H' hi hv => ?_) (fun σ' H' hv => ?_)
    · obtain ⟨x5, x6, rfl, eX⟩ := hv
      have hgd := Nat.gcd_dvd_left m i
      have hgp := Nat.gcd_pos_of_pos_left i hm0
      have hgl := Nat.le_of_dvd hm0 hgd
      refine q_asg (v := .int (Nat.gcd m i : Nat)) ?_ fun H5 e5 => ?_
      · by_cases h0 : 0 < i
        · exact ev_if (b := true) (et_is (et_test (ev_opI0 (ev_var rfl) ev_c)) (decide_eq_true (by omega))) (fun _ => ev_call (ea_cons (ev_var rfl) (ea_cons (ev_var rfl) ea_nil)) spv_common) (fun h => nomatch h)
        · have e0 : i = 0 := by omega
          subst e0
          rw [Nat.gcd_zero_right]
          exact ev_if (b := false) (et_is (et_test (ev_opI0 (ev_var rfl) ev_c)) (by decide)) (fun h => nomatch h) (fun _ => ev_var rfl)
      generalize hg : Nat.gcd m i = g at *
      have hz0 : 0 < m / g := Nat.div_pos hgl hgp
      have hzl : m / g ≤ m := Nat.div_le_self _ _
      have hmg : m / (m / g) = g := Nat.div_div_self hgd (by omega)
      have hkl : k / (m / g) ≤ g := by
        have := Nat.div_le_div_right (c := m / g) hk
        rw [hmg] at this
        exact this
      have hz : Ev (tOp (rI CDiv fun i j => .int (i / j)) (tVar 2) (tVar 6)) [some (.int (n : Int)), some (.int (st : Int)), some (.int (m : Int)), some (.int (k : Int)), some (.int (su (fun s => fP m k (m / Nat.gcd m s)) i : Nat)), some (.int (i : Int)), some (.int (g : Int))] H5 (.int ((m / g : Nat) : Int)) := ev_i (ev_opI (C := CDiv) (g := fun i j => .int (i / j)) (ev_var rfl) (ev_var rfl) ⟨by omega, by omega⟩) rfl
      have esum : su (fun s => fP m k (m / Nat.gcd m s)) (i + 1) = su (fun s => fP m k (m / Nat.gcd m s)) i + fP m k (m / g) := by show _ + fP m k (m / Nat.gcd m i) = _; rw [hg]
      refine s_when (et_test (ev_eqS (ev_opI (g := fun i j => .int (i % j)) (ev_var rfl) hz (by show (0 : Int) < _; omega)) ev_c rfl)) (fun hb H6 e6 => ?_) fun hb H6 e6 => ?_
      · have hb' := V.int.inj (of_decide_eq_true hb)
        have hf : fP m k (m / g) = pk g (k / (m / g)) := by
          unfold fP
          rw [if_pos (by omega), hmg]
        refine s_aug (f := (· + ·)) (a := ((su (fun s => fP m k (m / Nat.gcd m s)) i : Nat) : Int)) (b := ((pk g (k / (m / g)) : Nat) : Int)) rfl (ev_call (vs := [.int (g : Int), .int ((k / (m / g) : Nat) : Int)]) (ea_cons (ev_var rfl) (ea_cons (ev_i (ev_opI (C := CDiv) (g := fun i j => .int (i / j)) (ev_var rfl) (hz.mono e6) ⟨by omega, by omega⟩) rfl) ea_nil)) (spv_picks hkl (by omega))) fun H7 e7 => ⟨some (.int (i : Int)), some (.int (g : Int)), ?_, eX.trans (e5.trans (e6.trans e7))⟩
        rw [esum, hf]
        rfl
      · have hb' : ¬ k % (m / g) = 0 := fun z => of_decide_eq_false hb (by show V.int (((k % (m / g) : Nat)) : Int) = V.int 0; rw [z]; rfl)
        have hf : fP m k (m / g) = 0 := by unfold fP; rw [if_neg hb']
        refine ⟨some (.int (i : Int)), some (.int (g : Int)), ?_, eX.trans (e5.trans e6)⟩
        rw [esum, hf]
        rfl
    · obtain ⟨x5, x6, rfl, eX⟩ := hv
      refine s_ret (ev_opI (g := fun i j => .int (i / j)) (ev_var rfl) (ev_var rfl) ⟨by omega, by omega⟩) fun H5 e5 => q H5 (eX.trans e5)
end
end Cw
namespace Cw
open PySem PySem.Spec PyProof.Rows L2 Evl Ch
local macro_rules | `(tactic| walk_at "cond") => `(tactic| first | omega | decide | (show _ ∧ _; constructor <;> first | omega | decide) | (show _ ∨ _; first | (left; constructor <;> omega) | (right; constructor <;> omega)) | (show _ ∧ _ ∧ _; refine ⟨?_, ?_, ?_⟩ <;> first | omega | decide))
local macro_rules | `(tactic| walk_at "ev") => `(tactic| first | ((with_reducible apply ev_var); rfl) | (with_reducible exact ev_c) | ((with_reducible apply ev_opI0) <;> walk_at "ev") | ((with_reducible apply ev_opI); walk_at "ev"; walk_at "ev"; walk_at "cond") | ((with_reducible apply ev_eqS); walk_at "ev"; walk_at "ev"; rfl) | ((with_reducible apply ev_neS); walk_at "ev"; walk_at "ev"; rfl) | ((with_reducible apply ev_isi); walk_at "ev"; walk_at "ev"; (first | exact ty_int | exact ty_bl | exact ty_str | exact ty_lst (by assumption)); (first | exact kit_ty (r := true) (by decide +kernel) | exact kit_ty (r := false) (by decide +kernel))) | ((with_reducible apply ev_notV); walk_at "ev") | ((with_reducible apply ev_sum); walk_at "ev"; exact sq_of (by assumption)) | (apply ev_len; walk_at "ev"; exact sq_of (by assumption)))
local macro_rules | `(tactic| walk_at "et") => `(tactic| first | ((with_reducible apply et_test); walk_at "ev") | ((with_reducible apply et_B); walk_at "ev") | ((with_reducible apply et_not); walk_at "et"))
section
variable {P : Program} {w : World} {K : PySem.W.Frag} {mg : Str → Option Value} {base : Heap}
/-- no stairs and marks -/
inductive BadM (x y : V) (H : Hp) : Prop where
  | stairs {ty : String} (h : ThV H x ty) (n : numV x 0 = false)
  | type {n : Int} {ty : String} (e : x = .int n) (h : ThV H y ty) (m : ty ≠ "str")
  | sign {n : Int} {z : Str} (e : x = .int n) (e2 : y = .str z) (hl : z.cps.size ≤ 1000) (m : z.cps.toList.all (fun c => decide (c ∈ ("x-" : Str).cps.toList)) = false)
  | many {n : Int} {bs : List Bool} (e : x = .int n) (e2 : y = .str (mk bs)) (hl : bs.length ≤ 1000) (m : (bs.length : Int) = n + 1 → 400 < n * (n + 1) / 2 + (nx bs : Int))
theorem BadM.mono {x y : V} {H H' : Hp} (h : BadM x y H) (e : Ex H H') : BadM x y H' := by
  cases h with
  | stairs h n => exact .stairs (h.mono e) n
  | type a h m => exact .type a (h.mono e) m
  | sign a b c d => exact .sign a b c d
  | many a b c d => exact .many a b c d
def sp_heaps_of (BM : Addr) : Sp := fun vs H Q E => ∃ x y, vs = [x, y] ∧ ((∃ (n : Int) (bs : List Bool), x = .int n ∧ y = .str (mk bs) ∧ n + 1 = (bs.length : Int) ∧ 0 < bs.length ∧ Hs (stand bs) ∧ RetL (LI (stand bs)) H Q) ∨ (BadM x y H ∧ Out BM H E))
theorem mk_all (bs : List Bool) : (mk bs).cps.toList.all (fun c => decide (c ∈ ("x-" : Str).cps.toList)) = true := List.all_eq_true.mpr fun c hc => by
  rw [mk_cps] at hc
  obtain ⟨b, _, rfl⟩ := List.mem_map.mp hc
  cases b <;> decide +kernel
theorem hs_len {bs : List Bool} (hs : Hs (stand bs)) : bs.length ≤ 28 := by
  have h1 := stand_sum bs
  have h2 := hs.sm
  rcases Nat.lt_or_ge 28 bs.length with h | h
  · have := tri_mono (show 29 ≤ bs.length by omega)
    omega
  · exact h
theorem ok_heaps_of {f : Addr} {fd : FuncData} {BM : Addr} (T : Tx mg) (x_BadMarks : Exn K mg "BadMarks" BM) (F : Fun K "heaps_of" "heaps_of" s_heaps_of f fd) (c_is_number : Cal P w K mg base 1 "is_number" sp_is_number) (c_standing : Cal P w K mg base 1 "standing" sp_standing) : FnOk P w K mg base (L2N.CX P w) 2 f fd ["stairs", "marks"] (sp_heaps_of BM) := by
  refine F.okN sc_heaps_of (fun vs H Q E h => ?_) (fun cdv A outer s H vs Q E hr h => ?_)
  · obtain ⟨_, _, rfl, _⟩ := h
    rfl
  · obtain ⟨x, y, rfl, h⟩ := h
    refine ⟨_, (pss_cons (ps_if (PW.pt (pw_or (pt_not (pt_val (pe_c c_is_number hr (by decide) (by rfl) (pa_cons (pv 0) (pa_cons pe_int pa_nil))))) (pw_or (pt_not (pt_val (pe_callB (r := rIsi K) call_isi (by rfl) T.b_isinstance (by decide +kernel) (pa_cons (pv 1) (pa_cons (pe_bltn (v := .ty "str") (by rfl) T.b_str (by decide +kernel) rfl) pa_nil))))) (pw_or1 (pt_not (pt_val (pe_callB (r := rAll K) (cr_all rfl) (by rfl) T.b_all (by decide +kernel) (pa_cons (pe_lc (own := [("sign", 2)]) (by rfl) sc_heaps_of.nd (pi_str (pv 1)) (blkOk_by (N := N_heaps_of) (sc := defScope s_heaps_of) (by decide +kernel)) (fun _ _ _ _ _ => (pg_name (i := 2) sc_heaps_of.nd rfl (Or.inl rfl))) (fun _ _ _ _ _ => pts_nil) (fun _ _ _ _ _ => (pe_cmpR op_in_sign (pv 2) pe_str (by rfl)))) pa_nil)))))))) (pss_one (ps_refuse rfl (L2N.takes_of rfl rfl rfl rfl) x_BadMarks (by rfl))) pss_nil)
      (pss_cons (ps_if (PW.pt (pw_or (pt_cmpR op_ne (pe_callB call_len_str (by rfl) T.b_len PySem.boot_len (pa_cons (pv 1) pa_nil)) (pe_op op_add (pv 0) pe_int) (nomark _)) (pw_or1 (pt_cmpR op_gt (pe_op op_add (pe_op op_fdiv (pe_op op_mul (pv 0) (pe_op op_add (pv 0) pe_int)) pe_int) (pe_m1 PySem.F.slot_str_count PySem.F.type_str_count mt_count (pv 1) pe_str)) (pe_gi (by rfl) T.c_MOST_CARDS) (nomark _))))) (pss_one (ps_refuse rfl (L2N.takes_of rfl rfl rfl rfl) x_BadMarks (by rfl))) pss_nil)
      (PSs.nox (pss_one (ps_ret (pe_c c_standing hr (by decide) (by rfl) (pa_cons (pv 0) (pa_cons (pv 1) pa_nil)))))))), ?_⟩
    have hnum : ∀ {H1 : Hp} {n : Int} {z : V}, Ev (tCall sp_is_number [] E0 (tCons (tVar 0) (tCons (tC (.int 0)) tNil))) [some (.int n), some z, none] H1 (.bl (decide (0 ≤ n))) := fun {H1 n z} => ev_call (ea_cons (ev_var rfl) (ea_cons ev_c ea_nil)) (spv_is_number (.int n))
    rcases h with ⟨n, bs, rfl, rfl, hn, h0, hs, q⟩ | ⟨hb, q⟩
    rotate_left
    · cases hb with
      | stairs hty hnu => exact q_when (b := true) (et_is (a := !numV x 0 || false) (et_or (b := false) (et_not (et_B (ev_call (ea_cons (ev_var rfl) (ea_cons ev_c ea_nil)) (spv_is_number hty)))) fun z => by rw [hnu] at z; cases z) (by rw [hnu]; rfl)) (fun _ H1 e1 => q H1 e1) fun h => nomatch h
      | type e hty hm =>
        rename_i n ty
        subst e
        have hf : subT ty "str" = false := by cases hty <;> first | rfl | exact absurd rfl hm
        refine q_when (b := true) (et_is (a := !decide (0 ≤ n) || true) (et_or (et_not (et_B hnum)) fun _ => et_is (a := !subT ty "str" || false) (et_or (b := false) (et_not (et_B (ev_isiT (ev_var rfl) ev_c hty (.inr (.inr (.inr (.inl rfl))))))) fun z => by rw [hf] at z; cases z) (by rw [hf]; rfl)) (by rw [Bool.or_true])) (fun _ H1 e1 => q H1 e1) fun h => nomatch h
      | sign e e2 hl hm =>
        rename_i n z
        subst e e2
        refine q_when (b := true) (et_is (a := !decide (0 ≤ n) || (!true || true)) (et_or (et_not (et_B hnum)) fun _ => et_or (et_not (et_B (b := true) (by walk_at "ev"))) fun _ => et_is (et_not (et_B (ev_allS (fun c => decide (c ∈ ("x-" : Str).cps.toList)) (ev_var rfl) (by omega) (fun x => rfl) fun c H1 e1 hc => ev_inS (ev_var rfl) ev_c))) (by rw [hm]; rfl)) (by rw [Bool.or_true, Bool.or_true])) (fun _ H1 e1 => q H1 e1) fun h => nomatch h
      | many e e2 hl hm =>
        rename_i n bs
        subst e e2
        refine q_when (b := !decide (0 ≤ n)) (et_is (et_or (et_not (et_B hnum)) fun _ => et_or (et_not (et_B (b := true) (by walk_at "ev"))) fun _ => et_not (et_B (ev_allS (fun c => decide (c ∈ ("x-" : Str).cps.toList)) (ev_var rfl) (by rw [mk_size]; omega) (fun x => rfl) fun c H1 e1 hc => ev_inS (ev_var rfl) ev_c))) (by rw [mk_all]; show (!decide (0 ≤ n) || (false || false)) = _; rw [Bool.or_false, Bool.or_false])) (fun _ H1 e1 => q H1 e1) fun _ H1 e1 => ?_
        rename_i h
        have hn0 : 0 ≤ n := by
          rcases (show n < 0 ∨ 0 ≤ n by omega) with h1 | h1
          · rw [decide_eq_false (by omega)] at h; cases h
          · exact h1
        obtain ⟨s, rfl⟩ : ∃ s : Nat, n = (s : Int) := ⟨n.toNat, by omega⟩
        refine q_when (b := true) (et_is (a := !decide (V.int (bs.length : Int) = V.int ((s : Int) + 1)) || true) (et_or (b := true) (et_is (et_test (ev_neS (ev_lenS (ev_var rfl) (by rw [mk_len]; omega)) (ev_opI0 (g := fun i j => .int (i + j)) (ev_var rfl) ev_c) rfl)) (by rw [mk_len])) fun z => ?_) (by rw [Bool.or_true])) (fun _ H2 e2 => q H2 (e1.trans e2)) fun h => nomatch h
        have hle : (bs.length : Int) = (s : Int) + 1 := V.int.inj (of_decide_eq_true (by simpa using z))
        have h4 := hm hle
        refine et_is (et_test (ev_opI0 (g := fun i j => .bl (decide (j < i))) (ev_opI0 (g := fun i j => .int (i + j)) (ev_opI (g := fun i j => .int (i / j)) (ev_opI (g := fun i j => .int (i * j)) (ev_var rfl) (ev_opI0 (g := fun i j => .int (i + j)) (ev_var rfl) ev_c) (.inl ⟨by omega, by omega⟩)) ev_c ⟨by decide, by decide⟩) (ev_cnt (ev_var rfl) ev_c)) ev_c)) ?_
        rw [count_x]
        exact decide_eq_true h4
    have hl := hs_len hs
    refine q_when (b := false) (et_is (et_or (et_not (et_B hnum)) fun _ => et_or (et_not (et_B (b := true) (by walk_at "ev"))) fun _ => et_not (et_B (ev_allS (fun c => decide (c ∈ ("x-" : Str).cps.toList)) (ev_var rfl) (by rw [mk_size]; omega) (fun x => rfl) fun c H1 e1 hc => ev_inS (ev_var rfl) ev_c))) ?_) (fun h => nomatch h) fun _ H1 e1 => ?_
    · have ha := mk_all bs
      rw [ha, decide_eq_true (show (0 : Int) ≤ n by omega)]
      rfl
    · obtain ⟨s, rfl⟩ : ∃ s : Nat, n = (s : Int) := ⟨n.toNat, by omega⟩
      have hsum := stand_sum bs
      have hsm := hs.sm
      have hlen : bs.length = s + 1 := by omega
      refine q_when (b := false) (et_is (et_or (et_test (ev_neS (ev_lenS (ev_var rfl) (by rw [mk_len]; omega)) (ev_opI0 (g := fun i j => .int (i + j)) (ev_var rfl) ev_c) rfl)) fun _ => et_test (ev_opI0 (g := fun i j => .bl (decide (j < i))) (ev_opI0 (g := fun i j => .int (i + j)) (ev_opI (g := fun i j => .int (i / j)) (ev_opI (g := fun i j => .int (i * j)) (ev_var rfl) (ev_opI0 (g := fun i j => .int (i + j)) (ev_var rfl) ev_c) (.inl ⟨by omega, by omega⟩)) ev_c ⟨by decide, by decide⟩) (ev_cnt (ev_var rfl) ev_c)) ev_c)) ?_) (fun h => nomatch h) fun _ H2 e2 => ?_
      · rw [count_x, mk_len]
        have e1 : ((s : Int) * ((s : Int) + 1)) / 2 = ((s * (s + 1) / 2 : Nat) : Int) := by push_cast; rfl
        rw [hlen] at hsum
        rw [e1, hlen]
        have h1 : decide (V.int ((s + 1 : Nat) : Int) = V.int ((s : Int) + 1)) = true := decide_eq_true (by congr 1)
        rw [h1, decide_eq_false ?_]
        · rfl
        · have e2 : (s + 1 - 1) * (s + 1) = s * (s + 1) := by rw [Nat.add_sub_cancel]
          rw [e2] at hsum
          omega
      · exact s_retL (el_call (ea_cons (ev_var rfl) (ea_cons (ev_var rfl) ea_nil)) (spl_standing (by omega) (by omega))) fun p H3 hp e3 h3 => q.go (e1.trans e2) hp e3 h3
end
end Cw
namespace Cw
open PySem PySem.Spec PyProof.Rows L2 Evl Ch
local macro_rules | `(tactic| walk_at "cond") => `(tactic| first | omega | decide | (show _ ∧ _; constructor <;> first | omega | decide) | (show _ ∨ _; first | (left; constructor <;> omega) | (right; constructor <;> omega)) | (show _ ∧ _ ∧ _; refine ⟨?_, ?_, ?_⟩ <;> first | omega | decide))
local macro_rules | `(tactic| walk_at "ev") => `(tactic| first | ((with_reducible apply ev_var); rfl) | (with_reducible exact ev_c) | ((with_reducible apply ev_opI0) <;> walk_at "ev") | ((with_reducible apply ev_opI); walk_at "ev"; walk_at "ev"; walk_at "cond") | ((with_reducible apply ev_eqS); walk_at "ev"; walk_at "ev"; rfl) | ((with_reducible apply ev_neS); walk_at "ev"; walk_at "ev"; rfl) | ((with_reducible apply ev_isi); walk_at "ev"; walk_at "ev"; (first | exact ty_int | exact ty_bl | exact ty_str | exact ty_lst (by assumption)); (first | exact kit_ty (r := true) (by decide +kernel) | exact kit_ty (r := false) (by decide +kernel))) | ((with_reducible apply ev_notV); walk_at "ev") | ((with_reducible apply ev_sum); walk_at "ev"; exact sq_of (by assumption)) | (apply ev_len; walk_at "ev"; exact sq_of (by assumption)))
local macro_rules | `(tactic| walk_at "et") => `(tactic| first | ((with_reducible apply et_test); walk_at "ev") | ((with_reducible apply et_B); walk_at "ev") | ((with_reducible apply et_not); walk_at "et"))
section
variable {P : Program} {w : World} {K : PySem.W.Frag} {mg : Str → Option Value} {base : Heap}
theorem dec_bl (a b : Bool) : decide (V.bl a = V.bl b) = decide (a = b) := by cases a <;> cases b <;> decide
theorem dec_int (a b : Int) : decide (V.int a = V.int b) = decide (a = b) := by
  by_cases h : a = b
  · rw [decide_eq_true h, decide_eq_true (by rw [h])]
  · rw [decide_eq_false h, decide_eq_false fun z => h (V.int.inj z)]
theorem dec_str (a b : Str) : decide (V.str a = V.str b) = decide (a = b) := by
  by_cases h : a = b
  · rw [decide_eq_true h, decide_eq_true (by rw [h])]
  · rw [decide_eq_false h, decide_eq_false fun z => h (V.str.inj z)]
end
end Cw
namespace Cw
open PySem PySem.Spec PyProof.Rows L2 Evl Ch
local macro_rules | `(tactic| walk_at "cond") => `(tactic| first | omega | decide | (show _ ∧ _; constructor <;> first | omega | decide) | (show _ ∨ _; first | (left; constructor <;> omega) | (right; constructor <;> omega)) | (show _ ∧ _ ∧ _; refine ⟨?_, ?_, ?_⟩ <;> first | omega | decide))
local macro_rules | `(tactic| walk_at "ev") => `(tactic| first | ((with_reducible apply ev_var); rfl) | (with_reducible exact ev_c) | ((with_reducible apply ev_opI0) <;> walk_at "ev") | ((with_reducible apply ev_opI); walk_at "ev"; walk_at "ev"; walk_at "cond") | ((with_reducible apply ev_eqS); walk_at "ev"; walk_at "ev"; rfl) | ((with_reducible apply ev_neS); walk_at "ev"; walk_at "ev"; rfl) | ((with_reducible apply ev_isi); walk_at "ev"; walk_at "ev"; (first | exact ty_int | exact ty_bl | exact ty_str | exact ty_lst (by assumption)); (first | exact kit_ty (r := true) (by decide +kernel) | exact kit_ty (r := false) (by decide +kernel))) | ((with_reducible apply ev_notV); walk_at "ev") | ((with_reducible apply ev_sum); walk_at "ev"; exact sq_of (by assumption)) | (apply ev_len; walk_at "ev"; exact sq_of (by assumption)))
local macro_rules | `(tactic| walk_at "et") => `(tactic| first | ((with_reducible apply et_test); walk_at "ev") | ((with_reducible apply et_B); walk_at "ev") | ((with_reducible apply et_not); walk_at "et"))
section
variable {P : Program} {w : World} {K : PySem.W.Frag} {mg : Str → Option Value} {base : Heap}
theorem Out.mono {C : Addr} {H H' : Hp} {E : XK} (h : Out C H E) (e : Ex H H') : Out C H' E := fun H2 e2 => h H2 (e.trans e2)
theorem nt_lst {xs : List V} : ∀ ps, HO.lst xs ≠ .tbl ps := fun ps z => by cases z
theorem nt_tup {xs : List V} : ∀ ps, HO.tup xs ≠ .tbl ps := fun ps z => by cases z
theorem ext_of {H H' : Hp} (e : Ex H H') : LamX.ExtN H H' := fun b o h _ => e b o h
def nthS (l : List Stmt) (i : Nat) : Stmt := l.getD i (.Pass ⟨0, 0, 0, 0⟩)
def asgV : Stmt → Expr
  | .Assign _ v _ => v
  | _ => .List [] ⟨0, 0, 0, 0⟩
def exprV : Stmt → Expr
  | .Expr v _ => v
  | _ => .List [] ⟨0, 0, 0, 0⟩
def argV : Expr → Expr
  | .Call _ (a :: _) _ _ => a
  | e => e
def eltL : Expr → Nat → Expr
  | .List es _, i => es.getD i (.List [] ⟨0, 0, 0, 0⟩)
  | e, _ => e
def lamD (q : Str) : Expr → LamD
  | .Lambda ar b sc _ => ⟨q, ar, b, sc⟩
  | e => ⟨q, defArgs s__law_refused, e, defScope s__law_refused⟩
def qD : Str := (("_law_doors" : Str) ++ ".<locals>.") ++ "<lambda>"
def qB : Str := (("_law_bad_right" : Str) ++ ".<locals>.") ++ "<lambda>"
def dD : Fin 5 → LamD
  | 0 => lamD qD (eltL (asgV (nthS (defBody s__law_doors) 0)) 0)
  | 1 => lamD qD (argV (exprV (nthS (defBody s__law_doors) 1)))
  | 2 => lamD qD (argV (exprV (nthS (defBody s__law_doors) 2)))
  | 3 => lamD qD (argV (exprV (nthS (defBody s__law_doors) 3)))
  | 4 => lamD qD (argV (exprV (nthS (defBody s__law_doors) 4)))
def lD : LamD → Prop := fun d => ∃ j, d = dD j
def gD (BH : Addr) : V → Hp → XK → Prop := fun v H E => BadH v H ∧ Out BH H E
/-- no heaps, but for what hangs on the cell -/
theorem bad_less {v : V} {H : Hp} {c : Addr} {φ : Heap → Prop} (h : BadH v H) (hc : H c = some (.ext φ)) : BadH v (less H c) := by
  have at0 : ∀ {a : Addr} {o : HO}, H a = some o → (∀ ψ, o ≠ .ext ψ) → less H c a = some o := fun {a o} e n => by
    rw [less_at (fun z => by rw [z, hc] at e; exact n φ (Option.some.inj e).symm)]
    exact e
  have th : ∀ {x : V} {ty : String}, ThV H x ty → ThV (less H c) x ty := fun h => by
    cases h with
    | non => exact .non
    | bl b => exact .bl b
    | int i => exact .int i
    | str z => exact .str z
    | lst h => exact .lst (at0 h (fun _ z => by cases z))
    | tup h => exact .tup (at0 h (fun _ z => by cases z))
    | dK h => exact .dK (at0 h (fun _ z => by cases z))
    | dT h => exact .dT (at0 h (fun _ z => by cases z))
  cases h with
  | type h n => exact .type (th h) n
  | item e1 h hl ht hb => exact .item e1 (at0 h (fun _ z => by cases z)) hl (fun x hx => let ⟨ty, q⟩ := ht x hx; ⟨ty, th q⟩) hb
  | sums e1 h hl hp hb => exact .sums e1 (at0 h (fun _ z => by cases z)) hl hp hb
theorem mG_D {BH : Addr} (v : V) (H : Hp) (E : XK) (c : Addr) (φ : Heap → Prop) (hc : H c = some (.ext φ)) (g : gD BH v H E) : gD BH v (less H c) (fun cls d H' => H' c = none → E cls d (upd H' c (.ext φ))) :=
  ⟨bad_less g.1 hc, fun H' e n => g.2 _ fun b o hb => by
    by_cases z : b = c
    · rw [z, upd_same, ← hc, ← z]; exact hb
    · rw [upd_ne z]
      exact e b o (by rw [less_at z]; exact hb)⟩
theorem ref_D {R S BH BT : Addr} (T : Tx mg) (c_turned : CalX P w K mg base 3 "turned" (sp_turned BH)) (c_behind : CalX P w K mg base 3 "behind" (sp_behind BH BT)) (c_ahead : CalX P w K mg base 3 "ahead" (sp_ahead BH)) (c_told : CalX P w K mg base 4 "told" (sp_told R S BH)) (c_length : CalX P w K mg base 4 "length" (sp_length BH)) (i : Fin 5) : LamRefG P w K mg base 5 (dD i) "_law_heaps" (gD BH) := by
  match i with
  | 0 =>
    refine lamRef_of (d := dD 0) ⟨rfl, rfl, rfl, by decide, by decide, rfl⟩ (fun _ _ _ _ => rfl) mG_D fun A outer s H v Q E f c' c hr g => ?_
    exact ⟨_, pe_cX c_turned hr (by decide) (by rfl) (L2N.takes_of rfl rfl rfl rfl) (pa_cons (pv 0) pa_nil), xx_call (ea_cons (ev_var rfl) ea_nil) (fun H2 e2 _ => ⟨v, rfl, .inr ⟨g.1.mono e2, g.2.mono e2⟩⟩) H (Ex.refl H) Q⟩
  | 1 =>
    refine lamRef_of (d := dD 1) ⟨rfl, rfl, rfl, by decide, by decide, rfl⟩ (fun _ _ _ _ => rfl) mG_D fun A outer s H v Q E f c' c hr g => ?_
    exact ⟨_, pe_cX c_behind hr (by decide) (by rfl) (L2N.takes_of rfl rfl rfl rfl) (pa_cons (pv 0) (pa_cons pe_non pa_nil)), xx_call (ea_cons (ev_var rfl) (ea_cons ev_c ea_nil)) (fun H2 e2 _ => ⟨v, _, rfl, .inr ⟨g.1.mono e2, g.2.mono e2⟩⟩) H (Ex.refl H) Q⟩
  | 2 =>
    refine lamRef_of (d := dD 2) ⟨rfl, rfl, rfl, by decide, by decide, rfl⟩ (fun _ _ _ _ => rfl) mG_D fun A outer s H v Q E f c' c hr g => ?_
    exact ⟨_, pe_cX c_ahead hr (by decide) (by rfl) (L2N.takes_of rfl rfl rfl rfl) (pa_cons (pv 0) pa_nil), xx_call (ea_cons (ev_var rfl) ea_nil) (fun H2 e2 _ => ⟨v, rfl, .inr ⟨g.1.mono e2, g.2.mono e2⟩⟩) H (Ex.refl H) Q⟩
  | 3 =>
    refine lamRef_of (d := dD 3) ⟨rfl, rfl, rfl, by decide, by decide, rfl⟩ (fun _ _ _ _ => rfl) mG_D fun A outer s H v Q E f c' c hr g => ?_
    exact ⟨_, pe_cX c_told hr (by decide) (by rfl) (L2N.takes_of rfl rfl rfl rfl) (pa_cons (pv 0) pa_nil), xx_call (ea_cons (ev_var rfl) ea_nil) (fun H2 e2 _ => ⟨v, rfl, .inr ⟨g.1.mono e2, g.2.mono e2⟩⟩) H (Ex.refl H) Q⟩
  | 4 =>
    refine lamRef_of (d := dD 4) ⟨rfl, rfl, rfl, by decide, by decide, rfl⟩ (fun _ _ _ _ => rfl) mG_D fun A outer s H v Q E f c' c hr g => ?_
    exact ⟨_, pe_cX c_length hr (by decide) (by rfl) (L2N.takes_of rfl rfl rfl rfl) (pa_cons (pv 0) pa_nil), xx_call (ea_cons (ev_var rfl) ea_nil) (fun H2 e2 _ => ⟨v, rfl, .inr ⟨g.1.mono e2, g.2.mono e2⟩⟩) H (Ex.refl H) Q⟩
def tbT (P1 P2 : Addr) : List (Addr × Str) := [(P1, qD), (P2, qB)]
theorem tb_1 {P1 P2 : Addr} (n : P1 ≠ P2) : ∀ p ∈ tbT P1 P2, p.1 = P1 → p.2 = qD := fun p hp e => by
  rcases List.mem_cons.mp hp with rfl | hp
  · rfl
  · rw [List.mem_singleton.mp hp] at e
    exact absurd e.symm n
theorem tb_2 {P1 P2 : Addr} (n : P1 ≠ P2) : ∀ p ∈ tbT P1 P2, p.1 = P2 → p.2 = qB := fun p hp e => by
  rcases List.mem_cons.mp hp with rfl | hp
  · exact absurd e n
  · rw [List.mem_singleton.mp hp]
/-- one of the five lambdas, its cell at c -/
def Dm (H : Hp) (c : Addr) (x : V) : Prop := ∃ f c' j, x = .ref f ∧ H f = some (LamVC f c' (dD j) "_law_heaps" c) ∧ H c' = some (LamX.CodeO c' (dD j).q)
theorem Dm.ext {H H' : Hp} {c : Addr} {x : V} (h : Dm H c x) (e : LamX.ExtN H H') : Dm H' c x := let ⟨f, c', j, h1, h2, h3⟩ := h; ⟨f, c', j, h1, e _ _ h2 lamVC_ne, e _ _ h3 LamX.codeO_ne⟩
theorem tabs_list {T : List (Addr × Str)} {H : Hp} {l : Addr} {xs ys : List V} (t2 : LamX.Tabs T H) (hl : H l = some (.lst xs)) : LamX.Tabs T (upd H l (.lst ys)) := fun r hr => by
  obtain ⟨ps, a1, a2, a3⟩ := t2 r hr
  have no : ∀ y u, H y = some u → (∀ zs, u ≠ .lst zs) → upd H l (.lst ys) y = some u := fun y u hy hn => by
    rw [upd_ne (fun z => by rw [z, hl] at hy; exact hn _ (Option.some.inj hy).symm)]
    exact hy
  refine ⟨ps, no _ _ a1 (fun zs z => by cases z), a2, fun pos cv hc => ?_⟩
  obtain ⟨c0, z1, z2⟩ := a3 pos cv hc
  exact ⟨c0, z1, no _ _ z2 (fun zs z => by unfold LamX.CodeO at z; cases z)⟩
/-- the list of lambdas as it grows -/
structure Dl (T : List (Addr × Str)) (H0 H : Hp) (c l : Addr) (xs : List V) : Prop where
  ex : LamX.ExtN H0 H
  tb : LamX.Tabs T H
  at_ : H l = some (.lst xs)
  new : ∀ b o, H0 b = some o → (∀ ps, o ≠ .tbl ps) → b ≠ l
  all : ∀ x ∈ xs, Dm H c x
theorem Dl.one {T : List (Addr × Str)} {H0 : Hp} {c : Addr} {j : Fin 5} {σ : L2.St} {Q : VK} (hT : LamX.Tabs T H0) (k : ∀ l x H, Dl T H0 H c l [x] → Q (.ref l) H) : tLst (tCons (tLamC T (dD j) "_law_heaps" c) tNil) σ H0 Q :=
  ⟨hT, fun f c' H1 e1 t1 h1 g1 _ => ⟨sz_of (show 1 ≤ 100000 by decide), fun p hp => k p (.ref f) _ ⟨e1.trans (ext_of (Ex.new hp)), t1.ext (Ex.new hp), upd_same, fun b o hb n => ne_of_none (e1 b o hb n) hp, fun x hx => by
      rw [List.mem_singleton.mp hx]
      exact Dm.ext ⟨f, c', j, rfl, h1, g1⟩ (ext_of (Ex.new hp))⟩⟩⟩
theorem Dl.more {T : List (Addr × Str)} {H0 H : Hp} {c l : Addr} {xs : List V} {j : Fin 5} {σ : L2.St} {D : Ends} {i : Nat} (S : Dl T H0 H c l xs) (hi : σ[i]? = some (some (.ref l))) (hn : xs.length < 1000) (k : ∀ x H3, Dl T H0 H3 c l (xs ++ [x]) → D.nx σ H3) : tDrop (tBM K "list" rAppend (tVar i) (tCons (tLamC T (dD j) "_law_heaps" c) tNil)) D σ H := by
  refine app_raw hi S.at_ ⟨S.tb, fun f c' H1 e1 t1 h1 g1 _ => ?_⟩
  have hl := e1 l _ S.at_ nt_lst
  refine ⟨l, xs, .ref f, rfl, rfl, hl, sz_lt (by omega), k (.ref f) _ ?_⟩
  have up : ∀ b o, H1 b = some o → (∀ zs, o ≠ .lst zs) → upd H1 l (.lst (xs ++ [.ref f])) b = some o := fun b o hb n => by
    rw [upd_ne (fun z => by rw [z, hl] at hb; exact n _ (Option.some.inj hb).symm)]
    exact hb
  have dm : ∀ x, Dm H1 c x → Dm (upd H1 l (.lst (xs ++ [.ref f]))) c x := fun x h => let ⟨f, c', j, h1, h2, h3⟩ := h; ⟨f, c', j, h1, up _ _ h2 (fun zs z => by unfold LamVC at z; cases z), up _ _ h3 (fun zs z => by unfold LamX.CodeO at z; cases z)⟩
  refine ⟨fun b o hb n => ?_, tabs_list t1 hl, upd_same, S.new, fun x hx => ?_⟩
  · rw [upd_ne (S.new b o hb n)]
    exact e1 b o (S.ex b o hb n) n
  · rcases List.mem_append.mp hx with hx | hx
    · exact dm x ((S.all x hx).ext e1)
    · rw [List.mem_singleton.mp hx]
      exact dm _ ⟨f, c', j, rfl, h1, g1⟩
def sp_doors (tP1 tP2 : Addr) : Sp := fun vs H Q _ => ∃ v, vs = [v] ∧ LamX.Tabs (tbT tP1 tP2) H ∧ ∀ p xs c u H', LamX.ExtN H H' → LamX.Tabs (tbT tP1 tP2) H' → H' p = some (.lst xs) → xs.length = 5 → H' c = some (CellO c u) → RelV v u → (∀ x ∈ xs, Dm H' c x) → Q (.ref p) H'
theorem ok__law_doors {f : Addr} {fd : FuncData} {tc1 tP1 tP2 : Addr} (T : Tx mg) (F : Fun K "_law_doors" "_law_doors" s__law_doors f fd) (HC : fd.code = .ref tc1) (TB1 : LamX.TabB base mg tc1 tP1) (hne : tP1 ≠ tP2) : FnOk P w K mg base CX0 1 f fd ["_law_heaps"] (sp_doors tP1 tP2) := by
  refine fn_cell F HC sc__law_doors (fun vs H Q E h => ?_) (p := "_law_heaps") rfl rfl (fun A outer s H vs Q E c0 hr h hc0 hn0 => ?_)
  · obtain ⟨_, rfl, _⟩ := h
    rfl
  · obtain ⟨v, rfl, hT, q⟩ := h
    refine ⟨_, (pr_cons (ps_set (i := 1) sc__law_doors.nd rfl (Or.inl rfl) (pe_lst (pa_cons (pe_lamC (T := tbT tP1 tP2) TB1 rfl (.head _) (tb_1 hne) rfl (by decide) hc0) pa_nil)))
      (pr_cons (ps_expr (pe_bm PySem.F.plainAttrs_list PySem.F.slot_list_append PySem.F.type_list_append mt_append (pv 1) (pa_cons (pe_lamC (T := tbT tP1 tP2) TB1 rfl (.head _) (tb_1 hne) rfl (by decide) hc0) pa_nil)))
      (pr_cons (ps_expr (pe_bm PySem.F.plainAttrs_list PySem.F.slot_list_append PySem.F.type_list_append mt_append (pv 1) (pa_cons (pe_lamC (T := tbT tP1 tP2) TB1 rfl (.head _) (tb_1 hne) rfl (by decide) hc0) pa_nil)))
      (pr_cons (ps_expr (pe_bm PySem.F.plainAttrs_list PySem.F.slot_list_append PySem.F.type_list_append mt_append (pv 1) (pa_cons (pe_lamC (T := tbT tP1 tP2) TB1 rfl (.head _) (tb_1 hne) rfl (by decide) hc0) pa_nil)))
      (pr_cons (ps_expr (pe_bm PySem.F.plainAttrs_list PySem.F.slot_list_append PySem.F.type_list_append mt_append (pv 1) (pa_cons (pe_lamC (T := tbT tP1 tP2) TB1 rfl (.head _) (tb_1 hne) rfl (by decide) hc0) pa_nil)))
      (pr_ret (pv 1))))))), ?_⟩
    refine Dl.one (j := 0) hT fun l x1 H1 S1 => ?_
    refine Dl.more (j := 1) S1 rfl (by show 1 < 1000; decide) fun x2 H2 S2 => ?_
    refine Dl.more (j := 2) S2 rfl (by show 2 < 1000; decide) fun x3 H3 S3 => ?_
    refine Dl.more (j := 3) S3 rfl (by show 3 < 1000; decide) fun x4 H4 S4 => ?_
    refine Dl.more (j := 4) S4 rfl (by show 4 < 1000; decide) fun x5 H5 S5 => ?_
    refine ⟨.ref l, rfl, v, rfl, fun u hu hn => ?_⟩
    have e6 : Ex H5 (upd H5 c0 (CellO c0 u)) := Ex.new hn
    exact q l _ c0 u _ (S5.ex.trans (ext_of e6)) (S5.tb.ext e6) (e6 l _ S5.at_) rfl upd_same hu fun x hx => (S5.all x hx).ext (ext_of e6)
end
end Cw
namespace Cw
open PySem PySem.Spec PyProof.Rows L2 Evl Ch
local macro_rules | `(tactic| walk_at "cond") => `(tactic| first | omega | decide | (show _ ∧ _; constructor <;> first | omega | decide) | (show _ ∨ _; first | (left; constructor <;> omega) | (right; constructor <;> omega)) | (show _ ∧ _ ∧ _; refine ⟨?_, ?_, ?_⟩ <;> first | omega | decide))
local macro_rules | `(tactic| walk_at "ev") => `(tactic| first | ((with_reducible apply ev_var); rfl) | (with_reducible exact ev_c) | ((with_reducible apply ev_opI0) <;> walk_at "ev") | ((with_reducible apply ev_opI); walk_at "ev"; walk_at "ev"; walk_at "cond") | ((with_reducible apply ev_eqS); walk_at "ev"; walk_at "ev"; rfl) | ((with_reducible apply ev_neS); walk_at "ev"; walk_at "ev"; rfl) | ((with_reducible apply ev_isi); walk_at "ev"; walk_at "ev"; (first | exact ty_int | exact ty_bl | exact ty_str | exact ty_lst (by assumption)); (first | exact kit_ty (r := true) (by decide +kernel) | exact kit_ty (r := false) (by decide +kernel))) | ((with_reducible apply ev_notV); walk_at "ev") | ((with_reducible apply ev_sum); walk_at "ev"; exact sq_of (by assumption)) | (apply ev_len; walk_at "ev"; exact sq_of (by assumption)))
local macro_rules | `(tactic| walk_at "et") => `(tactic| first | ((with_reducible apply et_test); walk_at "ev") | ((with_reducible apply et_B); walk_at "ev") | ((with_reducible apply et_not); walk_at "et"))
section
variable {P : Program} {w : World} {K : PySem.W.Frag} {mg : Str → Option Value} {base : Heap}
def cl4 (BH BT BC BM : Addr) : Fin 4 → Addr
  | 0 => BH
  | 1 => BT
  | 2 => BC
  | 3 => BM
/-- the errors' classes -/
structure Erw (K : PySem.W.Frag) (mg : Str → Option Value) (CE BH BT BC BM : Addr) : Prop where
  gCE : mg "CardError" = some (.ref CE)
  gBH : mg "BadHeaps" = some (.ref BH)
  gBT : mg "BadTurns" = some (.ref BT)
  gBC : mg "BadCards" = some (.ref BC)
  gBM : mg "BadMarks" = some (.ref BM)
  ec : ∀ i, ExcC K (cl4 BH BT BC BM i)
  em : ∀ i, PySem.W.exmOne K (.ref (cl4 BH BT BC BM i)) (.ref CE) = some true
  kt : ∀ i j, PySem.W.kitOne K (.ref (cl4 BH BT BC BM i)) (.ref (cl4 BH BT BC BM j)) = some (decide (i = j))
structure Asw (P : Program) (w : World) (K : PySem.W.Frag) (mg : Str → Option Value) (base : Heap) (BH : Addr) : Prop where
  L : ∀ d, lD d → LamRefG P w K mg base 5 d "_law_heaps" (gD BH)
theorem due_row (i : Fin 4) : ([decide (i = 0), decide (i = 1), decide (i = 2)] ++ [decide (i = 3)]) = [decide (V.int 0 = V.int (i.val : Int)), decide (V.int 1 = V.int (i.val : Int)), decide (V.int 2 = V.int (i.val : Int)), decide (V.int 3 = V.int (i.val : Int))] := by
  match i with
  | 0 => decide
  | 1 => decide
  | 2 => decide
  | 3 => decide
def sp_ref0 : Sp := fun vs H Q _ => ∃ (f c' c : Addr) (j : Fin 5) (u : Value) (v : V), vs = [.ref f, .int 0] ∧ H f = some (LamVC f c' (dD j) "_law_heaps" c) ∧ H c' = some (LamX.CodeO c' (dD j).q) ∧ H c = some (CellO c u) ∧ RelV v u ∧ BadH v H ∧ RetV (.bl true) H Q
theorem ok__law_refused {f : Addr} {fd : FuncData} {CE BH BT BC BM : Addr} (T : Tx mg) (R : Erw K mg CE BH BT BC BM) (AK : Asw P w K mg base BH) (F : Fun K "_law_refused" "_law_refused" s__law_refused f fd) : FnOk P w K mg base CX0 6 f fd ["_law_ask", "_law_due"] sp_ref0 := by
  refine F.ok sc__law_refused (fun vs H Q E h => ?_) (fun cdv A outer s H vs Q E hr h => ?_)
  · obtain ⟨_, _, _, _, _, _, rfl, _⟩ := h
    rfl
  · obtain ⟨g, c', c, j, u, v, rfl, hf, hc, hu, rv, hb, q⟩ := h
    refine ⟨_, (pss_cons (ps_set (i := 2) sc__law_refused.nd rfl (Or.inl rfl) (pe_lst pa_nil))
      (pss_cons (ps_try_as (i := 3) rfl rfl sc__law_refused.nd rfl rfl ⟨rfl, by decide, .inl R.gCE⟩ takesL (fun W pn xe tk _ => (pss_one (ps_expr (pe_askC (k := 5) (i := 0) (L := lD) (n := "_law_heaps") (G := gD BH) AK.L (hr.mono (by decide)) rfl (.inl rfl) (toN tk))))) (fun a oe cls d pn hz hf => (pss_cons (ps_set (i := 2) sc__law_refused.nd rfl (Or.inl rfl) (pe_lst (pa_cons (pe_callB (r := rIsV K cls d a) (call_isVc hz hf) (by rfl) T.b_isinstance (by decide +kernel) (pa_cons (pv 3) (pa_cons (pe_glob (v := .ref BH) (by rfl) R.gBH rfl) pa_nil))) (pa_cons (pe_callB (r := rIsV K cls d a) (call_isVc hz hf) (by rfl) T.b_isinstance (by decide +kernel) (pa_cons (pv 3) (pa_cons (pe_glob (v := .ref BT) (by rfl) R.gBT rfl) pa_nil))) (pa_cons (pe_callB (r := rIsV K cls d a) (call_isVc hz hf) (by rfl) T.b_isinstance (by decide +kernel) (pa_cons (pv 3) (pa_cons (pe_glob (v := .ref BC) (by rfl) R.gBC rfl) pa_nil))) pa_nil)))))
        (pss_one (ps_set (i := 2) sc__law_refused.nd rfl (Or.inl rfl) (pe_op op_cat (pv 2) (pe_lst (pa_cons (pe_callB (r := rIsV K cls d a) (call_isVc hz hf) (by rfl) T.b_isinstance (by decide +kernel) (pa_cons (pv 3) (pa_cons (pe_glob (v := .ref BM) (by rfl) R.gBM rfl) pa_nil))) pa_nil))))))))
      (pss_one (ps_ret (pe_cmpR (r := rEqD K) (op_eqD hr.units) (pv 2) (pe_lc (own := [("_law_one", 4)]) (by rfl) sc__law_refused.nd (pi_range1 (by rfl) T.b_range (pa_cons pe_int pa_nil)) (blkOk_by (N := N__law_refused) (sc := defScope s__law_refused) (by decide +kernel)) (fun _ _ _ _ _ => (pg_name (i := 4) sc__law_refused.nd rfl (Or.inl rfl))) (fun _ _ _ _ _ => pts_nil) (fun _ _ _ _ _ => (pe_cmpR op_eq (pv 4) (pv 1) (nomark _)))) (nomark _)))))), ?_⟩
    refine q_asgL (el_lst ea_nil (by decide)) fun p H1 hp e1 h1 => ?_
    refine ⟨g, c', c, dD j, u, v, rfl, ⟨j, rfl⟩, e1 _ _ hf, e1 _ _ hc, e1 _ _ hu, rv, hb.mono e1, fun H2 e2 => ?_⟩
    refine ⟨true, R.em 0, fun _ a ha => ?_, fun z => nomatch z⟩
    refine q_asgL (xs := [true, false, false].map V.bl) (el_lst (ea_cons (ev_isE (R.ec 0) (ev_var rfl) ev_c (R.kt 0 0)) (ea_cons (ev_isE (R.ec 0) (ev_var rfl) ev_c (R.kt 0 1)) (ea_cons (ev_isE (R.ec 0) (ev_var rfl) ev_c (R.kt 0 2)) ea_nil))) (show 3 ≤ 100000 by decide)) fun p H3 hp e3 h3 => ?_
    refine s_asgL (el_cat (ys := [false].map V.bl) (ev_var rfl) h3 (el_lst (ea_cons (ev_isE (R.ec 0) (ev_var rfl) ev_c (R.kt 0 3)) ea_nil) (by decide)) (show 4 ≤ 100000 by decide)) fun p2 H4 hp2 e4 h4 => ?_
    exact s_ret (v := .bl true) (ev_bl (ev_eqB (a := [true, false, false] ++ [false]) (b := [true, false, false, false]) (ep_blv (ev_var rfl) (by rw [List.map_append]; exact h4)) (ep_bln (el_is (el_lcR1 (fun _ => true) (fun j => .bl (decide (V.int (j : Int) = V.int 0))) (ea_cons ev_c ea_nil) (by decide) (fun x => rfl) (fun _ _ _ _ => et_yes) fun j H6 e6 _ _ => ev_eqS (ev_var rfl) (ev_var rfl) rfl) (by rfl)))) rfl) fun H5 e5 => q H5 ((e1.trans e2).trans ((e3.trans e4).trans e5))
def TTr (BH BT BC BM : Addr) (i : Fin 4) : (XK → Hp → VK → Prop) → Hp → VK → Prop := fun tl H Q => (∀ H2, Ex H H2 → ∀ (E : XK) (Q' : VK), Out (cl4 BH BT BC BM i) H2 E → tl E H2 Q') ∧ ∀ H2, Ex H H2 → Q (.bl true) H2
theorem refused_gives {X : Cx} {g CE BH BT BC BM : Addr} {cdg : Value} {q : Str} {k : Nat} (T : Tx X.mg) (R : Erw X.K X.mg CE BH BT BC BM) (i : Fin 4) (d : Int) (hd : d = (i.val : Int)) : Gives2 X N__law_refused "_law_refused" (defScope s__law_refused) g cdg (defBody s__law_refused) "_law_ask" q (.int d) k (TTr BH BT BC BM i) := by
  subst hd
  intro f c' s H Q tl hr act hc ⟨hA, hB⟩
  refine ⟨_, (pss_cons (ps_set (i := 2) sc__law_refused.nd rfl (Or.inl rfl) (pe_lst pa_nil))
      (pss_cons (ps_try_as (i := 3) rfl rfl sc__law_refused.nd rfl rfl ⟨rfl, by decide, .inl R.gCE⟩ takesL (fun W pn xe tk _ => (pss_one (ps_expr (act W pn xe _ _ tk)))) (fun a oe cls d pn hz hf => (pss_cons (ps_set (i := 2) sc__law_refused.nd rfl (Or.inl rfl) (pe_lst (pa_cons (pe_callB (r := rIsV X.K cls d a) (call_isVc hz hf) (by rfl) T.b_isinstance (by decide +kernel) (pa_cons (pv 3) (pa_cons (pe_glob (v := .ref BH) (by rfl) R.gBH rfl) pa_nil))) (pa_cons (pe_callB (r := rIsV X.K cls d a) (call_isVc hz hf) (by rfl) T.b_isinstance (by decide +kernel) (pa_cons (pv 3) (pa_cons (pe_glob (v := .ref BT) (by rfl) R.gBT rfl) pa_nil))) (pa_cons (pe_callB (r := rIsV X.K cls d a) (call_isVc hz hf) (by rfl) T.b_isinstance (by decide +kernel) (pa_cons (pv 3) (pa_cons (pe_glob (v := .ref BC) (by rfl) R.gBC rfl) pa_nil))) pa_nil)))))
        (pss_one (ps_set (i := 2) sc__law_refused.nd rfl (Or.inl rfl) (pe_op op_cat (pv 2) (pe_lst (pa_cons (pe_callB (r := rIsV X.K cls d a) (call_isVc hz hf) (by rfl) T.b_isinstance (by decide +kernel) (pa_cons (pv 3) (pa_cons (pe_glob (v := .ref BM) (by rfl) R.gBM rfl) pa_nil))) pa_nil))))))))
      (pss_one (ps_ret (pe_cmpR (r := rEqD X.K) (op_eqD hr.units) (pv 2) (pe_lc (own := [("_law_one", 4)]) (by rfl) sc__law_refused.nd (pi_range1 (by rfl) T.b_range (pa_cons pe_int pa_nil)) (blkOk_by (N := N__law_refused) (sc := defScope s__law_refused) (by decide +kernel)) (fun _ _ _ _ _ => (pg_name (i := 4) sc__law_refused.nd rfl (Or.inl rfl))) (fun _ _ _ _ _ => pts_nil) (fun _ _ _ _ _ => (pe_cmpR op_eq (pv 4) (pv 1) (nomark _)))) (nomark _)))))), ?_⟩
  refine q_asgL (el_lst ea_nil (by decide)) fun p H1 hp e1 h1 => ?_
  refine ⟨rfl, e1 c' _ hc, hA H1 e1 _ _ fun H2 e2 => ?_⟩
  refine ⟨true, R.em i, fun _ a ha => ?_, fun z => nomatch z⟩
  refine q_asgL (xs := [decide (i = 0), decide (i = 1), decide (i = 2)].map V.bl) (el_lst (ea_cons (ev_isE (R.ec i) (ev_var rfl) ev_c (R.kt i 0)) (ea_cons (ev_isE (R.ec i) (ev_var rfl) ev_c (R.kt i 1)) (ea_cons (ev_isE (R.ec i) (ev_var rfl) ev_c (R.kt i 2)) ea_nil))) (show 3 ≤ 100000 by decide)) fun p H3 hp e3 h3 => ?_
  refine s_asgL (el_cat (ys := [decide (i = 3)].map V.bl) (ev_var rfl) h3 (el_lst (ea_cons (ev_isE (R.ec i) (ev_var rfl) ev_c (R.kt i 3)) ea_nil) (show 1 ≤ 100000 by decide)) (show 4 ≤ 100000 by decide)) fun p2 H4 hp2 e4 h4 => ?_
  exact s_ret (v := .bl true) (ev_bl (ev_eqB (a := [decide (i = 0), decide (i = 1), decide (i = 2)] ++ [decide (i = 3)]) (ep_blv (ev_var rfl) (by rw [List.map_append]; exact h4)) (ep_bln (el_is (el_lcR1 (fun _ => true) (fun k => .bl (decide (V.int (k : Int) = V.int (i.val : Int)))) (ea_cons ev_c ea_nil) (by decide) (fun x => rfl) (fun _ _ _ _ => et_yes) fun k H6 e6 _ _ => ev_eqS (ev_var rfl) (ev_var rfl) rfl) (by rfl)))) (decide_eq_true (due_row i))) fun H5 e5 => hB H5 ((e1.trans e2).trans ((e3.trans e4).trans e5))
end
end Cw
namespace Cw
open PySem PySem.Spec PyProof.Rows L2 Evl Ch
local macro_rules | `(tactic| walk_at "cond") => `(tactic| first | omega | decide | (show _ ∧ _; constructor <;> first | omega | decide) | (show _ ∨ _; first | (left; constructor <;> omega) | (right; constructor <;> omega)) | (show _ ∧ _ ∧ _; refine ⟨?_, ?_, ?_⟩ <;> first | omega | decide))
local macro_rules | `(tactic| walk_at "ev") => `(tactic| first | ((with_reducible apply ev_var); rfl) | (with_reducible exact ev_c) | ((with_reducible apply ev_opI0) <;> walk_at "ev") | ((with_reducible apply ev_opI); walk_at "ev"; walk_at "ev"; walk_at "cond") | ((with_reducible apply ev_eqS); walk_at "ev"; walk_at "ev"; rfl) | ((with_reducible apply ev_neS); walk_at "ev"; walk_at "ev"; rfl) | ((with_reducible apply ev_isi); walk_at "ev"; walk_at "ev"; (first | exact ty_int | exact ty_bl | exact ty_str | exact ty_lst (by assumption)); (first | exact kit_ty (r := true) (by decide +kernel) | exact kit_ty (r := false) (by decide +kernel))) | ((with_reducible apply ev_notV); walk_at "ev") | ((with_reducible apply ev_sum); walk_at "ev"; exact sq_of (by assumption)) | (apply ev_len; walk_at "ev"; exact sq_of (by assumption)))
local macro_rules | `(tactic| walk_at "et") => `(tactic| first | ((with_reducible apply et_test); walk_at "ev") | ((with_reducible apply et_B); walk_at "ev") | ((with_reducible apply et_not); walk_at "et"))
section
variable {P : Program} {w : World} {K : PySem.W.Frag} {mg : Str → Option Value} {base : Heap}
section
variable {σ : L2.St} {H H0 : Hp} {te ta tb : TE} {hss : List (List Nat)} {ns : List Nat} {Es : L2.St → XK} {BH BT BM BC : Addr} {ua : TA}
theorem ep_ahd (h : EvP te σ H (fun v H1 => ∃ H0, isAhd H0 hss v H1)) : EvP te σ H (fun v H1 => ∃ a xs, v = .ref a ∧ SqL K H1 a xs ∧ PySem.W.EachIs (fun x (row : List Int) => Dp K H1 x (dI row)) xs (hss.map cl)) := h.imp fun v H1 e ⟨_, p, xs, h1, _, h3, h4⟩ => ⟨p, xs, h1, sq_of h3, each_rows (fun ns v ⟨r, a, _, _, b⟩ => ⟨r, a, b⟩) h4⟩
theorem ep_rowsD (h : EvP te σ H (isRows hss)) : EvP te σ H (IsD K (dR (hss.map cl))) := h.imp fun v H1 e ⟨p, xs, h1, h3, h4⟩ => by rw [h1]; exact dpR (sq_of h3) (each_rows (fun ns v h => h) h4)
theorem ep_rw (hss : List (List Nat)) (h : EvAP ua σ H (hss.map isN)) (hl : hss.length ≤ 100000) : EvP (tLst ua) σ H (IsD K (dR (hss.map cl))) := ep_rowsD (ep_lst h mo_mapN (by rw [List.length_map]; exact hl))
theorem tu_N (hs : Hs ns) (h : EvP te σ H (isN ns)) : EvP (tCallS (sp_turned BH) Es (tCons te tNil)) σ H (isN (turn ns)) := ep_callSP (ap_cons mo_n h ap_nil) fun H1 vs e ps Q q => by
  obtain ⟨_, rfl, b, rfl, hb⟩ := allP_one ps
  exact ⟨_, rfl, .inl ⟨b, ns, rfl, hb, hs, fun p H2 _ e2 h2 => q _ H2 e2 ⟨p, rfl, h2⟩⟩⟩
theorem be_N (t : Nat) (hs : Hs ns) (h : EvP ta σ H (isN ns)) (h2 : Ev tb σ H (.int (t : Int))) : EvP (tCallS (sp_behind BH BT) Es (tCons ta (tCons tb tNil))) σ H (isN (tn t ns)) := ep_callSP (ap_cons mo_n h (ap_cons mo_v (ep_v h2) ap_nil)) fun H1 vs e ps Q q => by
  obtain ⟨_, _, rfl, ⟨b, rfl, hb⟩, rfl⟩ := allP_two ps
  exact ⟨_, _, rfl, .inl ⟨b, ns, rfl, hb, hs, .inl ⟨t, rfl, fun p H2 _ e2 h2 => q _ H2 e2 ⟨p, rfl, h2⟩⟩⟩⟩
theorem ah_N (hs : Hs ns) (h : EvP te σ H (isN ns)) : EvP (tCallS (sp_ahead BH) Es (tCons te tNil)) σ H (fun v H1 => ∃ H0, isAhd H0 (ahd ns) v H1) := ep_callSP (ap_cons mo_n h ap_nil) fun H1 vs e ps Q q => by
  obtain ⟨_, rfl, b, rfl, hb⟩ := allP_one ps
  exact ⟨_, rfl, .inl ⟨b, ns, rfl, hb, hs, fun v H2 e2 hv => q v H2 e2 ⟨_, hv⟩⟩⟩
theorem ln_V (hs : Hs ns) (h : EvP te σ H (isN ns)) : Ev (tCallS (sp_length BH) Es (tCons te tNil)) σ H (.int (pr ns : Nat)) := ev_callSP (ap_cons mo_n h ap_nil) fun H1 vs e ps Q q => by
  obtain ⟨_, rfl, b, rfl, hb⟩ := allP_one ps
  exact ⟨_, rfl, .inl ⟨b, ns, rfl, hb, hs, q⟩⟩
theorem hp_L {n : Int} (bs : List Bool) (h1 : Ev ta σ H (.int n)) (h2 : Ev tb σ H (.str (mk bs))) (hn : n + 1 = (bs.length : Int)) (hm : Ms bs) : EvL (tCallS (sp_heaps_of BM) Es (tCons ta (tCons tb tNil))) σ H (LI (stand bs)) := el_callS (ea_cons h1 (ea_cons h2 ea_nil)) fun H1 e Q q => ⟨_, _, rfl, .inl ⟨n, bs, rfl, rfl, hn, hm.pos, hm.hs, q⟩⟩
theorem rn_V (n m : Nat) (hn : n ≤ 100000) (h : Ev ta σ H (.int (n : Int))) (hm : rn n = m) : Ev (tCallS (sp_rounds BC) Es (tCons ta tNil)) σ H (.int (m : Int)) := ev_callS (ea_cons h ea_nil) fun H1 e Q q => ⟨_, rfl, .inl ⟨n, rfl, hn, fun H2 e2 => hm ▸ q H2 e2⟩⟩
end
theorem if_no {A B : Prop} (h : B) : if (!true) = true then A else B := h
theorem tn_fix {x : List Nat} (h : turn x = x) : ∀ n, tn n x = x
  | 0 => rfl
  | n + 1 => by rw [tn_succ, tn_fix h n, h]
theorem tn_per {p : Nat} {x : List Nat} (h : tn p x = x) : ∀ n, tn (p * n) x = x
  | 0 => rfl
  | n + 1 => by rw [Nat.mul_succ, tn_add, tn_per h n, h]
/-! things that are no heaps -/
def plain : V → Bool
  | .non => true
  | .bl _ => true
  | .int _ => true
  | .str _ => true
  | _ => false
theorem plain_th {H : Hp} : ∀ {x : V}, plain x = true → ∃ ty, ThV H x ty
  | .non, _ => ⟨_, .non⟩
  | .bl b, _ => ⟨_, .bl b⟩
  | .int i, _ => ⟨_, .int i⟩
  | .str z, _ => ⟨_, .str z⟩
def isBH : V → Hp → Prop := fun v H => BadH v H
theorem mo_bH : Mo isBH := fun _ _ _ e h => BadH.mono h e
/-- it stays bad, whatever tables do -/
theorem bad_ext {v : V} {H H' : Hp} (h : BadH v H) (e : LamX.ExtN H H') : BadH v H' := by
  have th : ∀ {x : V} {ty : String}, ThV H x ty → ThV H' x ty := fun h => by
    cases h with
    | non => exact .non
    | bl b => exact .bl b
    | int i => exact .int i
    | str z => exact .str z
    | lst h => exact .lst (e _ _ h nt_lst)
    | tup h => exact .tup (e _ _ h nt_tup)
    | dK h => exact .dK (e _ _ h (fun ps z => by cases z))
    | dT h => exact .dT (e _ _ h (fun ps z => by cases z))
  cases h with
  | type h n => exact .type (th h) n
  | item e1 h hl ht hb => exact .item e1 (e _ _ h nt_lst) hl (fun x hx => let ⟨ty, q⟩ := ht x hx; ⟨ty, th q⟩) hb
  | sums e1 h hl hp hb => exact .sums e1 (e _ _ h nt_lst) hl hp hb
section
variable {σ : L2.St} {H : Hp} {te : TE} {v : V} {xs : List V} {ty : String}
def isTh (ty : String) : V → Hp → Prop := fun v H => ThV H v ty
theorem th_c (h : Ev te σ H v) (t : ∀ H, ThV H v ty) : EvP te σ H (isTh ty) := ep_ev h fun H1 _ => t H1
theorem th_t (h : EvU te σ H xs) : EvP te σ H (isTh "tuple") := ep_ut h fun _ _ _ h => .tup h
theorem bH_t (h : EvP te σ H (isTh ty)) (hn : ty ≠ "list") : EvP te σ H isBH := h.imp fun _ _ _ h => .type h hn
theorem bH_i (h : EvL te σ H xs) (hl : xs.length ≤ 20000) (ht : ∀ x ∈ xs, plain x = true) (hb : ∃ x ∈ xs, numV x 1 = false) : EvP te σ H isBH := ep_el h fun _ _ _ h => .item rfl h hl (fun x hx => plain_th (ht x hx)) hb
theorem bH_s {zs : List Int} (h : EvL te σ H (zs.map V.int)) (hl : zs.length ≤ 20000) (hp : ∀ z ∈ zs, 1 ≤ z) (hb : 400 < zs.sum ∨ ∃ i, i + 1 < zs.length ∧ zs[i]?.getD 0 < zs[i + 1]?.getD 0) : EvP te σ H isBH := ep_el h fun _ _ _ h => .sums rfl h hl hp hb
end
theorem bad_extM {x y : V} {H H' : Hp} (h : BadM x y H) (e : LamX.ExtN H H') : BadM x y H' := by
  have th : ∀ {x : V} {ty : String}, ThV H x ty → ThV H' x ty := fun h => by
    cases h with
    | non => exact .non
    | bl b => exact .bl b
    | int i => exact .int i
    | str z => exact .str z
    | lst h => exact .lst (e _ _ h nt_lst)
    | tup h => exact .tup (e _ _ h nt_tup)
    | dK h => exact .dK (e _ _ h (fun ps z => by cases z))
    | dT h => exact .dT (e _ _ h (fun ps z => by cases z))
  cases h with
  | stairs h n => exact .stairs (th h) n
  | type a h m => exact .type a (th h) m
  | sign a b c d => exact .sign a b c d
  | many a b c d => exact .many a b c d
def isBT : V → Hp → Prop := fun v H => ∃ ty, ThV H v ty ∧ numV v 0 = false
theorem mo_bT : Mo isBT := fun _ _ _ e ⟨ty, h, n⟩ => ⟨ty, h.mono e, n⟩
def isBC : V → Hp → Prop := fun v H => BadC v H
theorem mo_bC : Mo isBC := fun _ _ _ e h => BadC.mono h e
section
variable {σ : L2.St} {H : Hp} {te ta tb : TE} {ua : TA} {v : V} {xs : List V} {ty : String}
theorem mo_th : Mo (isTh ty) := fun _ _ _ e h => ThV.mono h e
theorem th_l (h : EvL te σ H xs) : EvP te σ H (isTh "list") := ep_el h fun _ _ _ h => .lst h
theorem ev_run {te : TE} {v : V} {Q : VK} (h : Ev te σ H v) (k : ∀ H1, Ex H H1 → Q v H1) : te σ H Q := h H (Ex.refl H) Q k
theorem th_d : EvP tDNewT σ H (isTh "dict") := ep_newD.imp fun _ _ _ ⟨_, h1, _, h2⟩ => h1 ▸ .dT h2
theorem bT_t (h : EvP te σ H (isTh ty)) (hn : ty ≠ "int") : EvP te σ H isBT := h.imp fun _ _ _ h => ⟨ty, h, by cases h <;> first | rfl | exact absurd rfl hn⟩
theorem bT_i {i : Int} (h : Ev te σ H (.int i)) (hn : i < 0) : EvP te σ H isBT := ep_ev h fun H1 _ => ⟨_, .int i, decide_eq_false (by omega)⟩
theorem bC_t (h : EvP te σ H (isTh ty)) (hn : ty ≠ "int") : EvP te σ H isBC := h.imp fun _ _ _ h => ⟨ty, h, .inl (by cases h <;> first | rfl | exact absurd rfl hn)⟩
theorem bC_i {i : Int} (h : Ev te σ H (.int i)) (hn : i < 0 ∨ 100000 < i) : EvP te σ H isBC := ep_ev h fun H1 _ => ⟨_, .int i, hn.elim (fun h => .inl (decide_eq_false (by omega))) fun h => .inr ⟨i, rfl, h⟩⟩
theorem num_not {H : Hp} {v : V} {ty : String} {m : Int} (h : ThV H v ty) (hn : ty ≠ "int") : numV v m = false := by cases h <;> first | rfl | exact absurd rfl hn
end
theorem op_raw {r : R2} {tb : TE} {i : Nat} {v : V} {Q : VK} {σ : L2.St} {H : Hp} (hv : σ[i]? = some (some v)) (h : tb σ H fun y H2 => r v y H2 Q) : tOp r (tVar i) tb σ H Q := ⟨v, hv, h⟩
theorem op_raw2 {r : R2} {ta tb : TE} {Q : VK} {σ : L2.St} {H : Hp} (h : ta σ H fun x H1 => tb σ H1 fun y H2 => r x y H2 Q) : tOp r ta tb σ H Q := h
theorem s_raw {te : TE} {D : Ends} {σ : L2.St} {H : Hp} (h : te σ H D.rt) : tRet te D σ H := h
theorem lcT_raw {T : List (Addr × Str)} {xs : List V} {tl te : TE} {j : Nat} {vs : List Nat} {Q : VK} {σ : L2.St} {H : Hp} (hu : EvU tl σ H xs) (wd : V) (hw : ∀ x, wipe ((wipe σ vs).set j (some x)) vs = wipe σ vs) (hT : LamX.Tabs T H) (hz : xs.length ≤ 1000)
    (he : ∀ (i : Nat) (x : V) (H1 : Hp) (Q' : VK), xs[i]? = some x → LamX.ExtN H H1 → LamX.Tabs T H1 → (∀ H2, LamX.ExtN H1 H2 → LamX.Tabs T H2 → Q' wd H2) → te ((wipe σ vs).set j (some x)) H1 Q')
    (k : ∀ p H1, LamX.ExtN H H1 → LamX.Tabs T H1 → H1 p = some (.lst (List.replicate xs.length wd)) → Q (.ref p) H1) : tLc (iTup K tl) (gName j) tYes te vs σ H Q :=
  hu H (Ex.refl H) _ fun a H1 ha e1 h1 => ⟨a, rfl, ⟨xs, st_of h1⟩, fun Dl hD => by
    refine lc_tup (xs := xs) (fun i H' => LamX.ExtN H1 H' ∧ LamX.Tabs T H' ∧ H' Dl = some (.lst (List.replicate i wd)) ∧ H' a = some (.tup xs)) ⟨ext_of (Ex.new hD), (hT.ext e1).ext (Ex.new hD), upd_same, Ex.new hD a _ h1⟩ (fun i H' _ p => st_of p.2.2.2) (fun i x H' hi p => ⟨hw x, ?_⟩) fun H' p => k Dl H' ((ext_of e1).trans p.1) p.2.1 p.2.2.1
    obtain ⟨p1, p2, p3, p4⟩ := p
    have hil := (List.getElem?_eq_some_iff.mp hi).1
    refine he i x H' _ hi ((ext_of e1).trans p1) p2 fun H2 eN t2 => ⟨List.replicate i wd, eN Dl _ p3 nt_lst, sz_lt (by rw [List.length_replicate]; omega), ?_⟩
    have d2 := eN Dl _ p3 nt_lst
    have ne : a ≠ Dl := ne_of_none h1 hD
    refine ⟨fun b o hb n => ?_, fun r hr => ?_, by rw [upd_same, List.replicate_succ'], by rw [upd_ne ne]; exact eN a _ p4 nt_tup⟩
    · rw [upd_ne (ne_of_none hb hD)]
      exact eN b o (p1 b o hb n) n
    · obtain ⟨ps, a1, a2, a3⟩ := t2 r hr
      have no : ∀ y u, H2 y = some u → (∀ zs, u ≠ .lst zs) → upd H2 Dl (.lst (List.replicate i wd ++ [wd])) y = some u := fun y u hy hn => by
        rw [upd_ne (fun z => by rw [z, d2] at hy; exact hn _ (Option.some.inj hy).symm)]
        exact hy
      refine ⟨ps, no _ _ a1 (fun zs z => by cases z), a2, fun pos cv hc => ?_⟩
      obtain ⟨c0, z1, z2⟩ := a3 pos cv hc
      exact ⟨c0, z1, no _ _ z2 (fun zs z => by unfold LamX.CodeO at z; cases z)⟩⟩
theorem q_raw {te : TE} {i : Nat} {tz : TS} {D : Ends} {σ : L2.St} {H : Hp} (h : te σ H fun v H1 => tz D (σ.set i (some v)) H1) : tSeq (tAsg te (gName i)) tz D σ H := h
theorem q_forTP {R : V → Hp → Prop} {n j : Nat} {tl : TE} {tz tu : TS} {D : Ends} {σ : L2.St} {H : Hp} (h : EvP tl σ H (isTup (List.replicate n R))) (Pv : Addr → List V → Nat → L2.St → Hp → Prop) (h0 : ∀ p xs H1, Ex H H1 → H1 p = some (.tup xs) → (∀ x ∈ xs, R x H1) → Pv p xs 0 σ H1) (hl : ∀ p xs i σ' H', Pv p xs i σ' H' → SqT K H' p xs)
    (hs : ∀ p xs i x σ' H', xs[i]? = some x → Pv p xs i σ' H' → tu { D with nx := Pv p xs (i + 1), ct := Pv p xs (i + 1), bk := tz D } (σ'.set j (some x)) H') (hd : ∀ p xs σ' H', Pv p xs xs.length σ' H' → tz D σ' H') : tSeq (tFor (iTup K tl) (gName j) tu) tz D σ H :=
  h H (Ex.refl H) _ fun v H1 e ⟨p, xs, h1, h2, h3⟩ => by
    subst h1
    exact ⟨p, rfl, ⟨xs, st_of h2⟩, for_tup (D := { D with nx := tz D }) (Pv p xs) (h0 p xs H1 e h2 (allP_rep h3).2) (fun i σ' H' _ hv => hl p xs i σ' H' hv) (hs p xs) (hd p xs)⟩
theorem t_norm {ts : TS} {D : Ends} {σ σ' : L2.St} {H : Hp} (h : σ = σ') (k : ts D σ' H) : ts D σ H := h ▸ k
section
variable {σ : L2.St} {H : Hp} {te : TE}
theorem il_p {ns : List Nat} (h : EvP te σ H (isN ns)) : IL K te σ H (cl ns) := h.imp fun v H1 _ ⟨a, hv, ha⟩ => by
  subst hv
  exact dpI (sq_of ha)
theorem il_r {ns : List Nat} {a : Addr} (h : Ev te σ H (.ref a)) (ha : H a = some (.lst (LI ns))) : IL K te σ H (cl ns) := il_p (ep_ev h fun H1 e1 => ⟨a, rfl, e1 a _ ha⟩)
end
end
end Cw
namespace Cw
open PySem PySem.Spec PyProof.Rows L2 Evl Ch
local macro_rules | `(tactic| walk_at "cond") => `(tactic| first | omega | decide | (show _ ∧ _; constructor <;> first | omega | decide) | (show _ ∨ _; first | (left; constructor <;> omega) | (right; constructor <;> omega)) | (show _ ∧ _ ∧ _; refine ⟨?_, ?_, ?_⟩ <;> first | omega | decide))
local macro_rules | `(tactic| walk_at "ev") => `(tactic| first | ((with_reducible apply ev_var); rfl) | (with_reducible exact ev_c) | ((with_reducible apply ev_opI0) <;> walk_at "ev") | ((with_reducible apply ev_opI); walk_at "ev"; walk_at "ev"; walk_at "cond") | ((with_reducible apply ev_eqS); walk_at "ev"; walk_at "ev"; rfl) | ((with_reducible apply ev_neS); walk_at "ev"; walk_at "ev"; rfl) | ((with_reducible apply ev_isi); walk_at "ev"; walk_at "ev"; (first | exact ty_int | exact ty_bl | exact ty_str | exact ty_lst (by assumption)); (first | exact kit_ty (r := true) (by decide +kernel) | exact kit_ty (r := false) (by decide +kernel))) | ((with_reducible apply ev_notV); walk_at "ev") | ((with_reducible apply ev_sum); walk_at "ev"; exact sq_of (by assumption)) | (apply ev_len; walk_at "ev"; exact sq_of (by assumption)))
local macro_rules | `(tactic| walk_at "et") => `(tactic| first | ((with_reducible apply et_test); walk_at "ev") | ((with_reducible apply et_B); walk_at "ev") | ((with_reducible apply et_not); walk_at "et"))
section
variable {P : Program} {w : World} {K : PySem.W.Frag} {mg : Str → Option Value} {base : Heap}
theorem less_upd {H : Hp} {c : Addr} {o : HO} : less (upd H c o) c = less H c := by
  funext b
  by_cases z : b = c
  · rw [z]
    unfold less
    rw [if_pos rfl, if_pos rfl]
  · rw [less_at z, less_at z, upd_ne z]
theorem ex_less {H H' : Hp} {c : Addr} (e : Ex H H') (n : H c = none) : Ex H (less H' c) := fun b o hb => by
  rw [less_at (ne_of_none hb n)]
  exact e b o hb
theorem less_ex {H : Hp} {c : Addr} : Ex (less H c) H := fun b o hb => by
  by_cases z : b = c
  · rw [z] at hb
    unfold less at hb
    rw [if_pos rfl] at hb
    cases hb
  · rw [less_at z] at hb
    exact hb
theorem less_less {H H' : Hp} {c : Addr} (e : Ex H H') : Ex (less H c) (less H' c) := fun b o hb => by
  by_cases z : b = c
  · rw [z] at hb
    unfold less at hb
    rw [if_pos rfl] at hb
    cases hb
  · rw [less_at z] at hb ⊢
    exact e b o hb
section
variable {σ : L2.St} {H : Hp} {te ta tb tl : TE}
/-- a comprehension whose items are new lists -/
theorem ep_lcNew {R : V → Hp → Prop} (mR : Mo R) {a : Addr} {xs : List V} {f : V → List V} {j : Nat} {vs : List Nat} (h : Ev tl σ H (.ref a)) (hx : H a = some (.lst xs)) (hz : xs.length ≤ 1000) (hw : ∀ x, wipe ((wipe σ vs).set j (some x)) vs = wipe σ vs)
    (he : ∀ x H1, Ex H H1 → x ∈ xs → EvL te ((wipe σ vs).set j (some x)) H1 (f x)) (hR : ∀ x ∈ xs, ∀ r H1, Ex H H1 → H1 r = some (.lst (f x)) → R (.ref r) H1) :
    EvP (tLc (iList K tl) (gName j) tYes te vs) σ H (fun v H' => ∃ q ys, v = .ref q ∧ H' q = some (.lst ys) ∧ ys.length = xs.length ∧ ∀ y ∈ ys, R y H') := fun H0 e Q q => h H0 e _ fun H1 e1 => by
  have hx1 := (e.trans e1) a _ hx
  refine ⟨a, rfl, ⟨xs, sq_of hx1⟩, fun Dl hD => ?_⟩
  refine lc_list (xs := xs) (fun i H' => Ex H1 H' ∧ ∃ ys, H' Dl = some (.lst ys) ∧ ys.length = i ∧ ∀ y ∈ ys, R y (less H' Dl)) ⟨Ex.new hD, [], upd_same, rfl, fun y hy => absurd hy List.not_mem_nil⟩ (fun i H' _ p => sq_of (p.1 a _ hx1)) (fun i x H' hi p => ⟨hw x, ?_⟩) fun H' p => ?_
  · obtain ⟨e2, ys, hd, hl, hy⟩ := p
    have hm := List.mem_of_getElem? hi
    have hil := (List.getElem?_eq_some_iff.mp hi).1
    refine he x H' ((e.trans e1).trans e2) hm H' (Ex.refl H') _ fun r H2 hr e3 h2 => ⟨ys, e3 Dl _ hd, sz_lt (by omega), ?_⟩
    have nr : r ≠ Dl := fun z => by rw [z, hd] at hr; cases hr
    have eX : Ex H1 (less H2 Dl) := ex_less (e2.trans e3) hD
    refine ⟨Ex.mut (e2.trans e3) hD, ys ++ [.ref r], upd_same, by rw [List.length_append, hl]; rfl, fun y hy2 => ?_⟩
    rw [less_upd]
    rcases List.mem_append.mp hy2 with hy2 | hy2
    · exact mR _ _ _ (less_less e3) (hy y hy2)
    · rw [List.mem_singleton.mp hy2]
      exact hR x hm r _ ((e.trans e1).trans eX) (by rw [less_at nr]; exact h2)
  · obtain ⟨e2, ys, hd, hl, hy⟩ := p
    exact q (.ref Dl) H' (e1.trans e2) ⟨Dl, ys, rfl, hd, hl, fun y hy2 => mR _ _ _ less_ex (hy y hy2)⟩
theorem el_sortSetN {w : World} {ns zs : List Int} (ha : EvL ta σ H (ns.map V.int)) (few : ns.length ≤ 60) (hz : ∀ zs' : List Int, zs'.Pairwise (· < ·) → (∀ k, k ∈ zs' ↔ k ∈ ns) → zs' = zs) : EvL (tCB (rSortedSet w) (tCons (tCB (rSetNs K w) (tCons ta tNil)) tNil)) σ H (zs.map V.int) := fun H1 e Q q =>
  ha H1 e _ fun a H2 ha2 e2 h2 => (el_sortSet (K := K) (w := w) (ta := fun _ H Q => Q (.ref a) H) (σ := σ) (H := H2) (fun H3 e3 Q q => q H3 (Ex.refl H3)) (sq_of h2) (by omega) (fun l d hl => Nat.le_trans (List.Nodup.length_le_of_subset d (fun x hx => hl x hx)) few) hz) H2 (Ex.refl H2) Q fun p H3 hp e3 h3 => q p H3 (fresh_back e2 hp) (e2.trans e3) h3
end
theorem sum_ge : ∀ {l : List Int} {x : Int}, (∀ z ∈ l, 1 ≤ z) → x ∈ l → x ≤ l.sum
  | [], _, _, h => absurd h List.not_mem_nil
  | a :: l, x, h1, h => by
    have hs : 0 ≤ l.sum := by
      clear h
      have h2 : ∀ z ∈ l, 1 ≤ z := fun z hz => h1 z (List.mem_cons_of_mem _ hz)
      induction l with
      | nil => exact Int.le_refl 0
      | cons b l ih =>
        rw [List.sum_cons]
        have := h2 b (.head _)
        have := ih (fun z hz => by rcases List.mem_cons.mp hz with rfl | hz; exact h1 _ (.head _); exact h2 z (List.mem_cons_of_mem _ hz)) (fun z hz => h2 z (List.mem_cons_of_mem _ hz))
        omega
    rw [List.sum_cons]
    rcases List.mem_cons.mp h with rfl | h
    · omega
    · have := sum_ge (fun z hz => h1 z (List.mem_cons_of_mem _ hz)) h
      have := h1 a (.head _)
      omega
def gd : List Nat := List.replicate 20 5 ++ List.replicate 20 3
theorem gd_hs : Hs gd := ⟨by decide +kernel, by decide +kernel, by decide +kernel⟩
/-- a thing that is no heap -/
def Odd (x : V) (H : Hp) : Prop := (∃ ty, ThV H x ty) ∧ (numV x 1 = false ∨ ∃ i, x = .int i ∧ 400 < i)
theorem mo_odd : Mo Odd := fun _ _ _ e ⟨⟨ty, h⟩, o⟩ => ⟨⟨ty, h.mono e⟩, o⟩
/-- the good heaps, one thing put in -/
def put (k : Nat) (x : V) : List V := ((cl gd).take k).map V.int ++ [x] ++ ((cl gd).drop (k + 1)).map V.int
theorem put_len {k : Nat} {x : V} (hk : k < 40) : (put k x).length = 40 := by
  unfold put
  have : (cl gd).length = 40 := by decide
  simp only [List.length_append, List.length_map, List.length_take, List.length_drop, List.length_singleton, this]
  omega
theorem put_mem {k : Nat} {x y : V} (h : y ∈ put k x) : y = x ∨ ∃ z : Int, y = .int z ∧ 1 ≤ z := by
  have g1 : ∀ z ∈ cl gd, 1 ≤ z := by decide
  unfold put at h
  rcases List.mem_append.mp h with h | h
  · rcases List.mem_append.mp h with h | h
    · obtain ⟨z, hz, rfl⟩ := List.mem_map.mp h
      exact .inr ⟨z, rfl, g1 z (List.mem_of_mem_take hz)⟩
    · exact .inl (List.mem_singleton.mp h)
  · obtain ⟨z, hz, rfl⟩ := List.mem_map.mp h
    exact .inr ⟨z, rfl, g1 z (List.mem_of_mem_drop hz)⟩
theorem put_self {k : Nat} {x : V} : x ∈ put k x := List.mem_append_left _ (List.mem_append_right _ (.head _))
theorem put_bad {k : Nat} {x : V} {H : Hp} {r : Addr} (hk : k < 40) (h : H r = some (.lst (put k x))) (o : Odd x H) : BadH (.ref r) H := by
  obtain ⟨⟨ty, ht⟩, o⟩ := o
  rcases o with o | ⟨i, rfl, hi⟩
  · refine .item rfl h (by rw [put_len hk]; decide) (fun y hy => ?_) ⟨x, put_self, o⟩
    rcases put_mem hy with rfl | ⟨z, rfl, _⟩
    · exact ⟨ty, ht⟩
    · exact ⟨_, .int z⟩
  · have e : put k (.int i) = (((cl gd).take k) ++ [i] ++ ((cl gd).drop (k + 1))).map V.int := by
      unfold put
      rw [List.map_append, List.map_append]
      rfl
    have hl : (((cl gd).take k) ++ [i] ++ ((cl gd).drop (k + 1))).length = 40 := by
      rw [← put_len (x := .int i) hk, e, List.length_map]
    have h1 : ∀ z ∈ (((cl gd).take k) ++ [i] ++ ((cl gd).drop (k + 1))), 1 ≤ z := fun z hz => by
      have : V.int z ∈ put k (.int i) := by rw [e]; exact List.mem_map_of_mem hz
      rcases put_mem this with e | ⟨z', e, h⟩
      · cases e; omega
      · cases e; exact h
    rw [e] at h
    exact .sums rfl h (by rw [hl]; decide) h1 (.inl (Int.lt_of_lt_of_le hi (sum_ge h1 (List.mem_append_left _ (List.mem_append_right _ (.head _))))))
theorem LI_gd : LI gd = (cl gd).map V.int := by decide
def isRowsB (n : Nat) : V → Hp → Prop := fun v H => ∃ p ys, v = .ref p ∧ H p = some (.lst ys) ∧ ys.length ≤ n ∧ ∀ y ∈ ys, BadH y H
def sp_spoiled : Sp := fun vs H Q _ => ∃ (g o : Addr) (n : Nat) (xs : List V), vs = [.ref g, .int (n : Int), .ref o] ∧ H g = some (.lst (LI gd)) ∧ H o = some (.lst xs) ∧ xs.length = 7 ∧ (∀ x ∈ xs, Odd x H) ∧ RetP (isRowsB 14) H Q
theorem ok__law_spoiled {f : Addr} {fd : FuncData} (T : Tx mg) (F : Fun K "_law_spoiled" "_law_spoiled" s__law_spoiled f fd) : FnOk P w K mg base CX0 1 f fd ["_law_good", "_law_more", "_law_odd"] sp_spoiled := by
  refine F.ok sc__law_spoiled (fun vs H Q E h => ?_) (fun cdv A outer s H vs Q E hr h => ?_)
  · obtain ⟨_, _, _, _, rfl, _⟩ := h
    rfl
  · obtain ⟨g, o, n, xs, rfl, hg, ho, hl, hO, q⟩ := h
    refine ⟨_, (pss_cons (ps_set (i := 3) sc__law_spoiled.nd rfl (Or.inl rfl) (pe_lst pa_nil))
      (pss_cons (ps_for PassesOwn.never rfl (pi_list (pe_callB (r := rSortedSet w) (cr_sortedSet rfl) (by rfl) T.b_sorted (by decide +kernel) (pa_cons (pe_callTy (r := rSetNs K w) (cr_setNs rfl) (by rfl) T.b_set (by decide +kernel) (pa_cons (pe_lst (pa_cons (pe_op op_mod (pv 1) (pe_callB (r := rLenS K) call_len_seq (by rfl) T.b_len PySem.boot_len (pa_cons (pv 0) pa_nil))) (pa_cons (pe_op op_sub (pe_callB (r := rLenS K) call_len_seq (by rfl) T.b_len PySem.boot_len (pa_cons (pv 0) pa_nil)) pe_int) pa_nil))) pa_nil)) pa_nil))) (pg_name (i := 4) sc__law_spoiled.nd rfl (Or.inr rfl)) (pss_one (ps_set (i := 3) sc__law_spoiled.nd rfl (Or.inl rfl) (pe_op op_cat (pv 3) (pe_lc (own := [("_law_bad", 5)]) (by rfl) sc__law_spoiled.nd (pi_list (pv 2)) (blkOk_by (N := N__law_spoiled) (sc := defScope s__law_spoiled) (by decide +kernel)) (fun _ _ _ _ _ => (pg_name (i := 5) sc__law_spoiled.nd rfl (Or.inl rfl))) (fun _ _ _ _ _ => pts_nil) (fun _ _ _ _ _ => (pe_op op_cat (pe_op op_cat (pe_slice (r := rSlL K) sl_list (pv 0) po_none (po_some (pv 4))) (pe_lst (pa_cons (pv 5) pa_nil))) (pe_slice (r := rSlL K) sl_list (pv 0) (po_some (pe_op op_add (pv 4) pe_int)) po_none))))))))
      (pss_one (ps_ret (pv 3))))), ?_⟩
    refine q_asgL (el_lst ea_nil (by decide)) fun p0 H1 hp0 e1 h1 => ?_
    obtain ⟨zs, hz1, hz2⟩ := rising [((n % 40 : Nat) : Int), 39]
    have hzl : zs.length ≤ 2 := List.Nodup.length_le_of_subset (l₂ := [((n % 40 : Nat) : Int), 39]) (List.Pairwise.imp (fun h => Int.ne_of_lt h) hz1) fun x hx => (hz2 x).mp hx
    have gl : (LI gd).length = 40 := by decide
    refine q_forNLn (el_sortSetN (ns := [((n % 40 : Nat) : Int), 39]) (zs := zs) (el_is (el_lst (ea_cons (ev_opI (g := fun i j => .int (i % j)) (ev_var rfl) (ev_len (ev_var rfl) (sq_of (e1 g _ hg))) (by rw [gl]; decide)) (ea_cons (ev_opI0 (g := fun i j => .int (i - j)) (ev_len (ev_var rfl) (sq_of (e1 g _ hg))) ev_c) ea_nil)) (show 2 ≤ 100000 by decide)) (by rw [gl]; show [V.int ((n : Int) % 40), V.int (40 - 1)] = [V.int ((n % 40 : Nat) : Int), V.int 39]; rw [Int.natCast_emod]; rfl)) (show 2 ≤ 60 by decide) (fun zs' a b => rising_one a hz1 fun k => (b k).trans (hz2 k).symm))
      (fun p i σ' H' => ∃ x4 x5 r ys, σ' = [some (.ref g), some (.int (n : Int)), some (.ref o), some (.ref r), x4, x5] ∧ Ex H1 H' ∧ H' p = some (.lst (zs.map V.int)) ∧ H' r = some (.lst ys) ∧ ys.length = 7 * i ∧ ∀ y ∈ ys, BadH y H') (fun p H2 hp e2 h2 => ⟨none, none, p0, [], rfl, e2, h2, e2 p0 _ h1, rfl, fun y hy => absurd hy List.not_mem_nil⟩) (fun p i σ' H' _ hv => ?_) (fun p i x σ' H' hx hv => ?_) (fun p σ' H' hv => ?_)
    · obtain ⟨_, _, _, _, _, _, h, _⟩ := hv
      exact sq_of h
    · obtain ⟨x4, x5, r, ys, rfl, eX, hp, hr', hyl, hB⟩ := hv
      obtain ⟨z, hz, rfl⟩ : ∃ z, z ∈ zs ∧ x = .int z := by
        rw [List.getElem?_map] at hx
        cases e : zs[i]? with
        | none => rw [e] at hx; cases hx
        | some z => rw [e] at hx; cases hx; exact ⟨z, List.mem_of_getElem? e, rfl⟩
      have hi2 : i < 2 := by
        have := (List.getElem?_eq_some_iff.mp hx).1
        rw [List.length_map] at this
        omega
      obtain ⟨k, hk, rfl⟩ : ∃ k : Nat, k < 40 ∧ z = (k : Int) := by
        have := (hz2 z).mp hz
        rcases List.mem_cons.mp this with e | e
        · exact ⟨n % 40, Nat.mod_lt _ (by decide), e⟩
        · exact ⟨39, by decide, List.mem_singleton.mp e⟩
      have eA := e1.trans eX
      refine s_asgP (P := fun v H' => ∃ q ys, v = .ref q ∧ H' q = some (.lst ys) ∧ ys.length = 7 * (i + 1) ∧ ∀ y ∈ ys, BadH y H') (fun H2 e2 Q' q' => op_raw (v := .ref r) rfl ?_) fun v H2 e2 hv => ?_
      · refine ep_lcNew (R := BadH) (f := put k) (fun _ _ _ e h => BadH.mono h e) (ev_var rfl) (e2 _ _ (eA o _ ho)) (by omega) (fun x => rfl) (fun x H3 e3 hx => ?_) (fun x hx r H3 e3 h3 => put_bad hk h3 (mo_odd _ _ _ (eA.trans (e2.trans e3)) (hO x hx))) H2 (Ex.refl H2) _ fun v H3 e3 hv => ?_
        · have g3 := (e2.trans e3) _ _ (eA g _ hg)
          rw [LI_gd] at g3
          have pl := put_len (x := x) hk
          unfold put at pl
          refine el_catN (el_catN (el_is (el_sl (ev_var rfl) eo_none (eo_some (ev_var rfl)) (sq_of g3)) (cut_takeV _ _)) (el_lst (ea_cons (ev_var rfl) ea_nil) (show 1 ≤ 100000 by decide)) ?_) (el_is (el_sl (ev_var rfl) (eo_some (ev_opI0 (g := fun i j => .int (i + j)) (ev_var rfl) ev_c)) eo_none (sq_of g3)) ?_) ?_
          · rw [List.length_append, List.length_append] at pl
            omega
          · show cutV ((cl gd).map V.int) (some ((k : Int) + 1)) none = ((cl gd).drop (k + 1)).map V.int
            rw [show (k : Int) + 1 = ((k + 1 : Nat) : Int) from rfl, cut_dropV _ _ (by rw [List.length_map, show (cl gd).length = 40 by decide]; omega), List.map_drop]
          · rw [List.length_append] at pl
            omega
        · obtain ⟨t, ys2, rfl, ht, hl2, hB2⟩ := hv
          refine ⟨r, t, ys, ys2, rfl, rfl, (e2.trans e3) r _ hr', ht, sz_of (by omega), fun u hu => q' _ _ (e3.trans (Ex.new hu)) ⟨u, _, rfl, upd_same, by rw [List.length_append]; omega, fun y hy => ?_⟩⟩
          rcases List.mem_append.mp hy with hy | hy
          · exact (hB y hy).mono ((e2.trans e3).trans (Ex.new hu))
          · exact (hB2 y hy).mono (Ex.new hu)
      · obtain ⟨t, ys2, rfl, ht, hl2, hB2⟩ := hv
        exact ⟨_, _, t, ys2, rfl, eX.trans e2, e2 p _ hp, ht, hl2, hB2⟩
    · obtain ⟨_, _, r, ys, rfl, eX, _, hr', hyl, hB⟩ := hv
      rw [List.length_map] at hyl
      exact s_ret (ev_var rfl) fun H2 e2 => q _ _ ((e1.trans eX).trans e2) ⟨r, ys, rfl, e2 r _ hr', by omega, fun y hy => (hB y hy).mono e2⟩
end
end Cw
namespace Cw
open PySem PySem.Spec PyProof.Rows L2 Evl Ch
local macro_rules | `(tactic| walk_at "cond") => `(tactic| first | omega | decide | (show _ ∧ _; constructor <;> first | omega | decide) | (show _ ∨ _; first | (left; constructor <;> omega) | (right; constructor <;> omega)) | (show _ ∧ _ ∧ _; refine ⟨?_, ?_, ?_⟩ <;> first | omega | decide))
local macro_rules | `(tactic| walk_at "ev") => `(tactic| first | ((with_reducible apply ev_var); rfl) | (with_reducible exact ev_c) | ((with_reducible apply ev_opI0) <;> walk_at "ev") | ((with_reducible apply ev_opI); walk_at "ev"; walk_at "ev"; walk_at "cond") | ((with_reducible apply ev_eqS); walk_at "ev"; walk_at "ev"; rfl) | ((with_reducible apply ev_neS); walk_at "ev"; walk_at "ev"; rfl) | ((with_reducible apply ev_isi); walk_at "ev"; walk_at "ev"; (first | exact ty_int | exact ty_bl | exact ty_str | exact ty_lst (by assumption)); (first | exact kit_ty (r := true) (by decide +kernel) | exact kit_ty (r := false) (by decide +kernel))) | ((with_reducible apply ev_notV); walk_at "ev") | ((with_reducible apply ev_sum); walk_at "ev"; exact sq_of (by assumption)) | (apply ev_len; walk_at "ev"; exact sq_of (by assumption)))
local macro_rules | `(tactic| walk_at "et") => `(tactic| first | ((with_reducible apply et_test); walk_at "ev") | ((with_reducible apply et_B); walk_at "ev") | ((with_reducible apply et_not); walk_at "et"))
section
variable {P : Program} {w : World} {K : PySem.W.Frag} {mg : Str → Option Value} {base : Heap}
theorem th_ext {H H' : Hp} {x : V} {ty : String} (h : ThV H x ty) (e : LamX.ExtN H H') : ThV H' x ty := by
  cases h with
  | non => exact .non
  | bl b => exact .bl b
  | int i => exact .int i
  | str z => exact .str z
  | lst h => exact .lst (e _ _ h nt_lst)
  | tup h => exact .tup (e _ _ h nt_tup)
  | dK h => exact .dK (e _ _ h (fun ps z => by cases z))
  | dT h => exact .dT (e _ _ h (fun ps z => by cases z))
section
variable {σ : L2.St} {H : Hp} {te ta tb tl : TE}
theorem od_c {v : V} {ty : String} (h : Ev te σ H v) (t : ∀ H, ThV H v ty) (o : numV v 1 = false ∨ ∃ i, v = .int i ∧ 400 < i) : EvP te σ H Odd := ep_ev h fun H1 _ => ⟨⟨_, t H1⟩, o⟩
theorem od_l {xs : List V} (h : EvL te σ H xs) : EvP te σ H Odd := ep_el h fun _ _ _ h => ⟨⟨_, .lst h⟩, .inl rfl⟩
theorem ep_catB {m n : Nat} (ha : EvP ta σ H (isRowsB m)) (hb : EvP tb σ H (isAllN n isBH)) (hn : m + n ≤ 1000) : EvP (tOp rCat ta tb) σ H (isRowsB (m + n)) := fun H1 e Q q =>
  ha H1 e _ fun v H2 e2 ⟨p, xs, hv, hp, hl, hx⟩ => hb H2 (e.trans e2) _ fun v3 H3 e3 ⟨p3, ys, hv3, hp3, hl3, hy⟩ => by
    subst hv hv3
    refine ⟨p, p3, xs, ys, rfl, rfl, e3 p _ hp, hp3, sz_of (by omega), fun u hu => q _ _ ((e2.trans e3).trans (Ex.new hu)) ⟨u, _, rfl, upd_same, by rw [List.length_append]; omega, fun y h => ?_⟩⟩
    rcases List.mem_append.mp h with h | h
    · exact (hx y h).mono (e3.trans (Ex.new hu))
    · exact BadH.mono (hy y h) (Ex.new hu)
theorem mo_rowsB {n : Nat} : Mo (isRowsB n) := fun _ _ _ e ⟨p, ys, h1, h2, h3, h4⟩ => ⟨p, ys, h1, e p _ h2, h3, fun y hy => (h4 y hy).mono e⟩
/-- a loop that asks a lambda of each thing of a tuple -/
theorem q_loopR {BH BT BC BM tP1 tP2 : Addr} {R : V → Hp → Prop} {n j : Nat} {i : Fin 4} {t : XK → TE} {tu tz : TS} {D : Ends} (h0 : σ = σ.set j none) (hR : ∀ y H H', R y H → LamX.ExtN H H' → R y H') (h : EvP tl σ H (isTup (List.replicate n R))) (hT : LamX.Tabs (tbT tP1 tP2) H)
    (hb : ∀ y H1, LamX.ExtN H H1 → R y H1 → ∀ (E : XK) (Q' : VK), Out (cl4 BH BT BC BM i) H1 E → t E (σ.set j (some y)) H1 Q') (k : ∀ x H1, LamX.ExtN H H1 → LamX.Tabs (tbT tP1 tP2) H1 → tz D (σ.set j x) H1) :
    tSeq (tFor (iTup K tl) (gName j) (tIfS (tNot (tB (tLam2 (tbT tP1 tP2) (TTr BH BT BC BM i) t))) tu tNext)) tz D σ H := by
  refine q_forTP h (fun p ys i σ' H' => (∃ x, σ' = σ.set j x) ∧ LamX.ExtN H H' ∧ LamX.Tabs (tbT tP1 tP2) H' ∧ H' p = some (.tup ys) ∧ ∀ y ∈ ys, R y H') (fun p ys H1 e1 hp hr => ⟨⟨none, h0⟩, ext_of e1, hT.ext e1, hp, hr⟩) (fun p ys i σ' H' hv => st_of hv.2.2.2.1) (fun p ys i y σ' H' hy hv => ?_) (fun p ys σ' H' hv => ?_)
  · obtain ⟨⟨x, rfl⟩, eN, hT', hp, hr⟩ := hv
    rw [List.set_set]
    refine ⟨hT', fun H2 eN2 hT2 => ⟨fun H3 e3 E Q' o => hb y H3 ((eN.trans eN2).trans (ext_of e3)) (hR y _ _ (hr y (List.mem_of_getElem? hy)) (eN2.trans (ext_of e3))) E Q' o, fun H3 e3 => ⟨true, rfl, ?_⟩⟩⟩
    exact if_no ⟨⟨_, rfl⟩, (eN.trans eN2).trans (ext_of e3), hT2.ext e3, e3 p _ (eN2 p _ hp nt_tup), fun z hz => hR z _ _ (hr z hz) (eN2.trans (ext_of e3))⟩
  · obtain ⟨⟨x, rfl⟩, eN, hT', _⟩ := hv
    exact k x H' eN hT'
/-- all five doors refuse -/
theorem allD {tP1 tP2 : Addr} {i j : Nat} {v : V} {vs : List Nat} {Q : VK} {E E' : XK} (hi : σ[i]? = some (some v)) (hj : ∀ x, ((wipe σ vs).set j (some x))[j]? = some (some x)) (hT : LamX.Tabs (tbT tP1 tP2) H) (hb : BadH v H) (hw : ∀ x, wipe ((wipe σ vs).set j (some x)) vs = wipe σ vs) (k : ∀ H1, LamX.ExtN H H1 → LamX.Tabs (tbT tP1 tP2) H1 → Q (.bl true) H1) :
    tCB (rAll K) (tCons (tLc (iList K (tCall (sp_doors tP1 tP2) [] E (tCons (tVar i) tNil))) (gName j) tYes (tCall sp_ref0 [] E' (tCons (tVar j) (tCons (tC (.int 0)) tNil))) vs) tNil) σ H Q := by
  refine ⟨v, hi, v, rfl, hT, fun p xs c u H1 eN hT1 hp hl hc rv hD => ?_⟩
  have kk := ev_allL (K := K) (σ := σ) (H := H1) (te := tCall sp_ref0 [] E' (tCons (tVar j) (tCons (tC (.int 0)) tNil))) (tl := fun _ H Q => Q (.ref p) H) (j := j) (vs := vs) (fun H2 e2 Q q => q H2 (Ex.refl H2)) (sq_of hp) (by omega) hw fun x hx H2 e2 => ev_call (ea_cons (ev_var (hj x)) (ea_cons ev_c ea_nil)) fun H3 e3 Q' q' => ?_
  · exact kk H1 (Ex.refl H1) Q fun H2 e2 => k H2 (eN.trans (ext_of e2)) (hT1.ext e2)
  · obtain ⟨f, c', m, rfl, hf, hcd⟩ := hD x hx
    have e4 := e2.trans e3
    exact fun _ => ⟨f, c', c, m, u, v, rfl, e4 _ _ hf, e4 _ _ hcd, e4 _ _ hc, rv, (bad_ext hb eN).mono e4, q'⟩
end
def sp_badr (tP1 tP2 : Addr) : Sp := fun vs H Q _ => ∃ n : Nat, vs = [.int (n : Int)] ∧ LamX.Tabs (tbT tP1 tP2) H ∧ ∀ H', LamX.ExtN H H' → LamX.Tabs (tbT tP1 tP2) H' → Q (.bl true) H'
def rise (k : Nat) : List Int := (cl gd).take (k + 1) ++ [6] ++ (cl gd).drop (k + 2)
theorem rise_bad : ∀ k : Fin 39, (rise k.val).length = 40 ∧ (∀ z ∈ rise k.val, 1 ≤ z) ∧ (rise k.val)[k.val]?.getD 0 < (rise k.val)[k.val + 1]?.getD 0 := by decide +kernel
/-- a sign put into marks -/
def sgn (k : Nat) (z : Str) : Str := mk (List.replicate k false) ++ z ++ mk (List.replicate (27 - k) false)
theorem sgn_bad : ∀ k : Fin 28, ∀ z ∈ [("X" : Str), " ", "\n", "0"], (sgn k.val z).cps.size ≤ 1000 ∧ (sgn k.val z).cps.toList.all (fun c => decide (c ∈ ("x-" : Str).cps.toList)) = false := by decide +kernel
theorem sgn_len : ∀ k : Fin 28, ∀ z ∈ [("X" : Str), " ", "\n", "", "--", "0"], (mk (List.replicate k.val false)).length + z.length ≤ 1000 ∧ (mk (List.replicate k.val false) ++ z).length + (mk (List.replicate (27 - k.val) false)).length ≤ 1000 := by decide +kernel
theorem sgn_mk : ∀ k : Fin 28, sgn k.val "" = mk (List.replicate 27 false) ∧ sgn k.val "--" = mk (List.replicate 29 false) := by decide +kernel
def isSg (k : Nat) : V → Hp → Prop := fun y H => ∃ z, y = .str z ∧ (mk (List.replicate k false)).length + z.length ≤ 1000 ∧ (mk (List.replicate k false) ++ z).length + (mk (List.replicate (27 - k) false)).length ≤ 1000 ∧ BadM (.int 27) (.str (sgn k z)) H
theorem mo_sg {k : Nat} : Mo (isSg k) := fun _ _ _ e ⟨z, h1, h2, h3, h4⟩ => ⟨z, h1, h2, h3, h4.mono e⟩
theorem sg_1 {σ : L2.St} {H : Hp} {te : TE} {z : Str} {k : Nat} (hk : k < 28) (h : Ev te σ H (.str z)) (hz : z ∈ [("X" : Str), " ", "\n", "0"]) (h2 : z ∈ [("X" : Str), " ", "\n", "", "--", "0"]) : EvP te σ H (isSg k) := ep_ev h fun _ _ => ⟨z, rfl, (sgn_len ⟨k, hk⟩ z h2).1, (sgn_len ⟨k, hk⟩ z h2).2, .sign rfl rfl (sgn_bad ⟨k, hk⟩ z hz).1 (sgn_bad ⟨k, hk⟩ z hz).2⟩
theorem sg_2 {σ : L2.St} {H : Hp} {te : TE} {z : Str} {k m : Nat} (hk : k < 28) (h : Ev te σ H (.str z)) (h2 : z ∈ [("X" : Str), " ", "\n", "", "--", "0"]) (he : sgn k z = mk (List.replicate m false)) (hm : m ≠ 28) (hm2 : m ≤ 1000) : EvP te σ H (isSg k) := ep_ev h fun _ _ => ⟨z, rfl, (sgn_len ⟨k, hk⟩ z h2).1, (sgn_len ⟨k, hk⟩ z h2).2, .many (bs := List.replicate m false) rfl (by rw [he]) (by rw [List.length_replicate]; exact hm2) (fun h => by rw [List.length_replicate] at h; omega)⟩
def isMk : V → Hp → Prop := fun y H => BadM (.int 27) y H
theorem mo_mk : Mo isMk := fun _ _ _ e h => BadM.mono h e
def isSt : V → Hp → Prop := fun x H => BadM x (.str "--") H
theorem mo_st : Mo isSt := fun _ _ _ e h => BadM.mono h e
theorem ok__law_bad_right {f : Addr} {fd : FuncData} {CE BH BT BC BM fR tc2 tP1 tP2 : Addr} {fdR : FuncData} (T : Tx mg) (R : Erw K mg CE BH BT BC BM) (F : Fun K "_law_bad_right" "_law_bad_right" s__law_bad_right f fd) (HC : fd.code = .ref tc2) (TB2 : LamX.TabB base mg tc2 tP2) (hne : tP1 ≠ tP2) (FR : Fun K "_law_refused" "_law_refused" s__law_refused fR fdR) (mR : mg "_law_refused" = some (.ref fR)) (BR : Binds K fdR ["_law_ask", "_law_due"] []) (c__law_refused : Cal P w K mg base 6 "_law_refused" sp_ref0) (c__law_doors : Cal P w K mg base 1 "_law_doors" (sp_doors tP1 tP2)) (c__law_spoiled : Cal P w K mg base 1 "_law_spoiled" sp_spoiled) (c_behind : CalX P w K mg base 3 "behind" (sp_behind BH BT)) (c_heaps_of : CalX P w K mg base 2 "heaps_of" (sp_heaps_of BM)) (c_length : CalX P w K mg base 4 "length" (sp_length BH)) (c_rounds : CalX P w K mg base 2 "rounds" (sp_rounds BC)) : FnOk P w K mg base CX0 7 f fd ["_law_more"] (sp_badr tP1 tP2) := by
  obtain ⟨oc, od, kV, doc, pm, an, cdv, ct, osl, rfl, lR, qR⟩ := FR.ex
  have kR := FR.kp
  refine F.okC HC sc__law_bad_right (fun vs H Q E h => ?_) (fun A outer s H vs Q E hr h => ?_)
  · obtain ⟨_, rfl, _⟩ := h
    rfl
  · obtain ⟨n, rfl, hT, q⟩ := h
    refine ⟨_, (pss_cons (ps_set (i := 1) sc__law_bad_right.nd rfl (Or.inr rfl) (pe_op op_cat (pe_op op_rep (pe_lst (pa_cons pe_int pa_nil)) pe_int) (pe_op op_rep (pe_lst (pa_cons pe_int pa_nil)) pe_int)))
      (pss_cons (ps_set (i := 2) sc__law_bad_right.nd rfl (Or.inl rfl) (pe_c c__law_spoiled hr (by decide) (by rfl) (pa_cons (pv 1) (pa_cons (pv 0) (pa_cons (pe_lst (pa_cons pe_non (pa_cons pe_bl (pa_cons pe_str (pa_cons (pe_lst (pa_cons pe_int pa_nil)) (pa_cons pe_int (pa_cons (pe_un un_neg pe_int) (pa_cons (pe_op op_pow pe_int pe_int) pa_nil)))))))) pa_nil)))))
      (pss_cons (ps_set (i := 2) sc__law_bad_right.nd rfl (Or.inl rfl) (pe_op op_cat (pv 2) (pe_lst (pa_cons pe_non (pa_cons (pe_tup pa_nil) (pa_cons pe_str (pa_cons pe_int (pa_cons pe_dnewT (pa_cons (pe_callTy (r := rTupS K) call_tuple_of (by rfl) T.b_tuple (by decide +kernel) (pa_cons (pv 1) pa_nil)) (pa_cons (pe_op op_rep (pe_lst (pa_cons pe_int pa_nil)) pe_int) pa_nil))))))))))
      (pss_cons (ps_set (i := 3) sc__law_bad_right.nd rfl (Or.inl rfl) (pe_op op_add pe_int (pe_op op_mod (pv 0) pe_int)))
      (pss_cons (ps_set (i := 2) sc__law_bad_right.nd rfl (Or.inl rfl) (pe_op op_cat (pv 2) (pe_lst (pa_cons (pe_op op_cat (pe_op op_cat (pe_slice (r := rSlL K) sl_list (pv 1) po_none (po_some (pv 3))) (pe_lst (pa_cons pe_int pa_nil))) (pe_slice (r := rSlL K) sl_list (pv 1) (po_some (pe_op op_add (pv 3) pe_int)) po_none)) (pa_cons (pe_op op_cat (pe_slice (r := rSlL K) sl_list (pv 1) po_none (po_some pe_int)) (pe_lst (pa_cons pe_int pa_nil))) (pa_cons (pe_op op_cat (pe_op op_cat (pe_slice (r := rSlL K) sl_list (pv 1) po_none (po_some pe_int)) (pe_op op_rep (pe_lst (pa_cons pe_int pa_nil)) pe_int)) (pe_lst (pa_cons pe_int pa_nil))) pa_nil))))))
      (pss_cons (ps_for PassesOwn.never rfl (pi_list (pv 2)) (pg_name (i := 4) sc__law_bad_right.nd rfl (Or.inl rfl)) (pss_one (ps_if (pt_not (pt_val (pe_callB (r := rAll K) (cr_all rfl) (by rfl) T.b_all (by decide +kernel) (pa_cons (pe_lc (own := [("_law_ask", 5)]) (by rfl) sc__law_bad_right.nd (pi_list (pe_c c__law_doors hr (by decide) (by rfl) (pa_cons (pv 4) pa_nil))) (blkOk_by (N := N__law_bad_right) (sc := defScope s__law_bad_right) (by decide +kernel)) (fun _ _ _ _ _ => (pg_name (i := 5) sc__law_bad_right.nd rfl (Or.inl rfl))) (fun _ _ _ _ _ => pts_nil) (fun _ _ _ _ _ => (pe_c c__law_refused hr (by decide) (by rfl) (pa_cons (pv 5) (pa_cons pe_int pa_nil))))) pa_nil)))) (pss_one (ps_ret pe_bl)) pss_nil)))
      (pss_cons (ps_set (i := 6) sc__law_bad_right.nd rfl (Or.inr rfl) (pe_op op_mod (pv 0) pe_int))
      (pss_cons (ps_for PassesOwn.never rfl (pi_tup (pe_tup (pa_cons pe_str (pa_cons pe_str (pa_cons pe_str (pa_cons pe_str (pa_cons pe_str (pa_cons pe_str pa_nil)))))))) (pg_name (i := 7) sc__law_bad_right.nd rfl (Or.inr rfl)) (pss_one (ps_if (pt_not (pt_val (pe_lam2 (k := 3) (T := tbT tP1 tP2) (by rfl) mR kR lR qR BR sc__law_refused rfl (.inl rfl) (refused_gives T R 3 3 rfl) (pa_cons pe_int pa_nil) TB2 rfl (.tail _ (.head _)) (tb_2 hne) (hr.mono (by decide)) (LamX.lamS_by (sc := defScope s__law_bad_right) (by decide +kernel)) rfl (fun _ _ _ _ _ => rfl) (fun A outer s H E f c' hr2 => (pe_cX c_heaps_of hr2 (by decide) (by rfl) (toN (takes_of rfl rfl rfl rfl)) (pa_cons pe_int (pa_cons (pe_op op_add_str (pe_op op_add_str (pe_op op_repS pe_str (pv 6)) (pv 7)) (pe_op op_repS pe_str (pe_op op_sub pe_int (pv 6)))) pa_nil))))))) (pss_one (ps_ret pe_bl)) pss_nil)))
      (pss_cons (ps_for PassesOwn.never rfl (pi_tup (pe_tup (pa_cons (pe_op op_repS pe_str pe_int) (pa_cons (pe_op op_add_str (pe_op op_repS pe_str pe_int) pe_str) (pa_cons (pe_op op_add_str (pe_op op_repS pe_str pe_int) pe_str) (pa_cons (pe_op op_add_str pe_str (pe_op op_repS pe_str pe_int)) (pa_cons pe_str (pa_cons pe_non (pa_cons pe_int (pa_cons (pe_op op_rep (pe_lst (pa_cons pe_str pa_nil)) pe_int) pa_nil)))))))))) (pg_name (i := 8) sc__law_bad_right.nd rfl (Or.inr rfl)) (pss_one (ps_if (pt_not (pt_val (pe_lam2 (k := 3) (T := tbT tP1 tP2) (by rfl) mR kR lR qR BR sc__law_refused rfl (.inl rfl) (refused_gives T R 3 3 rfl) (pa_cons pe_int pa_nil) TB2 rfl (.tail _ (.head _)) (tb_2 hne) (hr.mono (by decide)) (LamX.lamS_by (sc := defScope s__law_bad_right) (by decide +kernel)) rfl (fun _ _ _ _ _ => rfl) (fun A outer s H E f c' hr2 => (pe_cX c_heaps_of hr2 (by decide) (by rfl) (toN (takes_of rfl rfl rfl rfl)) (pa_cons pe_int (pa_cons (pv 8) pa_nil))))))) (pss_one (ps_ret pe_bl)) pss_nil)))
      (pss_cons (ps_for PassesOwn.never rfl (pi_tup (pe_tup (pa_cons pe_non (pa_cons pe_str (pa_cons pe_bl (pa_cons (pe_lst (pa_cons pe_int pa_nil)) (pa_cons (pe_un un_neg pe_int) (pa_cons (pe_un un_neg (pe_op op_pow pe_int pe_int)) (pa_cons pe_int (pa_cons (pe_op op_pow pe_int pe_int) pa_nil)))))))))) (pg_name (i := 9) sc__law_bad_right.nd rfl (Or.inr rfl)) (pss_one (ps_if (pt_not (pt_val (pe_lam2 (k := 3) (T := tbT tP1 tP2) (by rfl) mR kR lR qR BR sc__law_refused rfl (.inl rfl) (refused_gives T R 3 3 rfl) (pa_cons pe_int pa_nil) TB2 rfl (.tail _ (.head _)) (tb_2 hne) (hr.mono (by decide)) (LamX.lamS_by (sc := defScope s__law_bad_right) (by decide +kernel)) rfl (fun _ _ _ _ _ => rfl) (fun A outer s H E f c' hr2 => (pe_cX c_heaps_of hr2 (by decide) (by rfl) (toN (takes_of rfl rfl rfl rfl)) (pa_cons (pv 9) (pa_cons pe_str pa_nil))))))) (pss_one (ps_ret pe_bl)) pss_nil)))
      (pss_cons (ps_for PassesOwn.never rfl (pi_tup (pe_tup (pa_cons pe_non (pa_cons pe_str (pa_cons pe_bl (pa_cons (pe_lst (pa_cons pe_int pa_nil)) (pa_cons (pe_un un_neg pe_int) (pa_cons (pe_un un_neg (pe_op op_pow pe_int pe_int)) pa_nil)))))))) (pg_name (i := 10) sc__law_bad_right.nd rfl (Or.inr rfl)) (pss_one (ps_if (pt_not (pt_val (pe_lam2 (k := 3) (T := tbT tP1 tP2) (by rfl) mR kR lR qR BR sc__law_refused rfl (.inl rfl) (refused_gives T R 1 1 rfl) (pa_cons pe_int pa_nil) TB2 rfl (.tail _ (.head _)) (tb_2 hne) (hr.mono (by decide)) (LamX.lamS_by (sc := defScope s__law_bad_right) (by decide +kernel)) rfl (fun _ _ _ _ _ => rfl) (fun A outer s H E f c' hr2 => (pe_cX c_behind hr2 (by decide) (by rfl) (toN (takes_of rfl rfl rfl rfl)) (pa_cons (pv 1) (pa_cons (pv 10) pa_nil))))))) (pss_one (ps_ret pe_bl)) pss_nil)))
      (pss_cons (ps_for PassesOwn.never rfl (pi_tup (pe_tup (pa_cons pe_non (pa_cons pe_str (pa_cons pe_bl (pa_cons (pe_lst (pa_cons pe_int pa_nil)) (pa_cons (pe_un un_neg pe_int) (pa_cons pe_int (pa_cons (pe_op op_add pe_int (pv 0)) (pa_cons (pe_op op_pow pe_int pe_int) pa_nil)))))))))) (pg_name (i := 11) sc__law_bad_right.nd rfl (Or.inr rfl)) (pss_one (ps_if (pt_not (pt_val (pe_lam2 (k := 3) (T := tbT tP1 tP2) (by rfl) mR kR lR qR BR sc__law_refused rfl (.inl rfl) (refused_gives T R 2 2 rfl) (pa_cons pe_int pa_nil) TB2 rfl (.tail _ (.head _)) (tb_2 hne) (hr.mono (by decide)) (LamX.lamS_by (sc := defScope s__law_bad_right) (by decide +kernel)) rfl (fun _ _ _ _ _ => rfl) (fun A outer s H E f c' hr2 => (pe_cX c_rounds hr2 (by decide) (by rfl) (toN (takes_of rfl rfl rfl rfl)) (pa_cons (pv 11) pa_nil)))))) (pss_one (ps_ret pe_bl)) pss_nil)))
      (pss_cons (ps_if (pt_cmpR (r := rNeD K) (op_neD hr.units) (pe_cX c_behind hr (by decide) (by rfl) takesN (pa_cons (pv 1) (pa_cons pe_int pa_nil))) (pv 1) (nomark _)) (pss_one (ps_ret pe_bl)) pss_nil)
      (pss_cons (ps_if (pt_cmpR (r := rNeD K) (op_neD hr.units) (pe_cX c_heaps_of hr (by decide) (by rfl) takesN (pa_cons pe_int (pa_cons pe_str pa_nil))) (pe_lst (pa_cons pe_int pa_nil)) (nomark _)) (pss_one (ps_ret pe_bl)) pss_nil)
      (pss_cons (ps_if (pt_cmpR (r := rNeD K) (op_neD hr.units) (pe_cX c_heaps_of hr (by decide) (by rfl) takesN (pa_cons pe_int (pa_cons pe_str pa_nil))) (pe_lst pa_nil) (nomark _)) (pss_one (ps_ret pe_bl)) pss_nil)
      (pss_one (ps_ret (pe_cmpR op_eq (pe_cX c_length hr (by decide) (by rfl) takesN (pa_cons (pe_lst pa_nil) pa_nil)) pe_int (nomark _))))))))))))))))))), ?_⟩
    refine q_asgL (xs := LI gd) (el_is (el_catN (el_rep (k := 20) (el_lst (ea_cons ev_c ea_nil) (by decide)) ev_c (by decide) (by decide)) (el_rep (k := 20) (el_lst (ea_cons ev_c ea_nil) (by decide)) ev_c (by decide) (by decide)) (by decide)) (by decide +kernel)) fun g H1 hg0 e1 hg => ?_
    refine q_asgP (P := isRowsB 14) (ep_callP (ap_cons mo_v (ep_v (ev_var rfl)) (ap_cons mo_v (ep_v (ev_var rfl)) (ap_cons (mo_allN mo_odd) (ep_allN 7 mo_odd (ap_cons mo_odd (od_c ev_c (fun _ => .non) (.inl rfl)) (ap_cons mo_odd (od_c ev_c (fun _ => .bl _) (.inl rfl)) (ap_cons mo_odd (od_c ev_c (fun _ => .str _) (.inl rfl)) (ap_cons mo_odd (od_l (el_lst (ea_cons ev_c ea_nil) (by decide))) (ap_cons mo_odd (od_c ev_c (fun _ => .int _) (.inl rfl)) (ap_cons mo_odd (od_c (ev_neg ev_c) (fun _ => .int _) (.inl rfl)) (ap_cons mo_odd (od_c (ev_opI (C := CPow) (g := fun i j => .int (i ^ j.toNat)) ev_c ev_c ⟨by decide, by decide, by decide⟩) (fun _ => .int _) (.inr ⟨_, rfl, by decide⟩)) ap_nil))))))) (by decide)) ap_nil))) fun H2 vs e2 ps => ?_) fun v H2 e2 hv => ?_
    · obtain ⟨x, y, z, rfl, rfl, rfl, hz⟩ := allP_three ps
      obtain ⟨o, xs, rfl, ho, hl, hO⟩ := hz
      exact fun H3 e3 Q' q' _ => ⟨g, o, n, xs, rfl, e3 _ _ (e2 _ _ hg), e3 _ _ ho, hl, fun x hx => mo_odd _ _ _ e3 (hO x hx), q'⟩
    have g2 := e2 g _ hg
    refine q_asgP (P := isRowsB 21) (ep_catB (m := 14) (n := 7) (ep_ev (ev_var rfl) fun H3 e3 => mo_rowsB _ _ _ e3 hv) (ep_allN 7 mo_bH (ap_cons mo_bH (bH_t (th_c ev_c fun _ => .non) (by decide)) (ap_cons mo_bH (bH_t (th_t (eu_tup ea_nil (by decide))) (by decide)) (ap_cons mo_bH (bH_t (th_c ev_c fun _ => .str _) (by decide)) (ap_cons mo_bH (bH_t (th_c ev_c fun _ => .int _) (by decide)) (ap_cons mo_bH (bH_t th_d (by decide)) (ap_cons mo_bH (bH_t (th_t (eu_tupleOf (ev_var rfl) (sq_of g2))) (by decide))
      (ap_cons mo_bH (bH_s (zs := List.replicate 401 1) (el_is (el_rep (k := 401) (el_lst (ea_cons ev_c ea_nil) (by decide)) ev_c (by decide) (by decide)) (by rw [rep1, List.map_replicate]; rfl)) (by rw [List.length_replicate]; decide) (fun z hz => by rw [(List.mem_replicate.mp hz).2]; decide) (.inl (by decide +kernel))) ap_nil))))))) (by decide)) (by decide)) fun v3 H3 e3 hv3 => ?_
    have g3 := e3 g _ g2
    refine q_asg (ev_i (b := 1 + (n : Int) % 39) (b' := ((n % 39 + 1 : Nat) : Int)) (ev_opI0 (g := fun i j => .int (i + j)) ev_c (ev_opI (g := fun i j => .int (i % j)) (ev_var rfl) ev_c (by decide))) (by omega)) fun H4 e4 => ?_
    have g4 := e4 g _ g3
    have gk := g4
    rw [LI_gd] at gk
    have hk39 : n % 39 < 39 := Nat.mod_lt _ (by decide)
    obtain ⟨rl, r1, rb⟩ := rise_bad ⟨n % 39, hk39⟩
    have rl' : ((cl gd).take (n % 39 + 1)).length + 1 + ((cl gd).drop (n % 39 + 2)).length = 40 := by
      have : (rise (n % 39)).length = 40 := rl
      unfold rise at this
      rw [List.length_append, List.length_append] at this
      exact this
    refine q_asgP (P := isRowsB 24) (ep_catB (m := 21) (n := 3) (ep_ev (ev_var rfl) fun H5 e5 => mo_rowsB _ _ _ (e4.trans e5) hv3) (ep_allN 3 mo_bH
      (ap_cons mo_bH (bH_s (zs := rise (n % 39)) (el_is (el_catN (el_catN (el_is (el_sl (ev_var rfl) eo_none (eo_some (ev_var rfl)) (sq_of gk)) (cut_takeV _ _)) (el_lst (ea_cons ev_c ea_nil) (by decide)) (by rw [List.length_map]; show _ + 1 ≤ 100000; omega)) (el_is (el_sl (ev_var rfl) (eo_some (ev_i (b := ((n % 39 + 1 : Nat) : Int) + 1) (b' := ((n % 39 + 2 : Nat) : Int)) (ev_opI0 (g := fun i j => .int (i + j)) (ev_var rfl) ev_c) (by omega))) eo_none (sq_of gk)) (cut_dropV _ _ (by rw [List.length_map, show (cl gd).length = 40 by decide]; omega))) (by rw [List.length_append, List.length_map, ← List.map_drop, List.length_map]; show _ + 1 + _ ≤ 100000; omega)) (by unfold rise; rw [List.map_append, List.map_append, List.map_drop]; rfl)) (by rw [rl]; decide) r1 (.inr ⟨n % 39, by rw [rl]; omega, rb⟩))
      (ap_cons mo_bH (bH_s (zs := (cl gd).take 39 ++ [4]) (el_is (el_catN (el_sl (ev_var rfl) eo_none (eo_some ev_c) (sq_of gk)) (el_lst (ea_cons ev_c ea_nil) (by decide)) (by decide +kernel)) (by decide +kernel)) (by decide +kernel) (by decide +kernel) (.inr ⟨38, by decide +kernel, by decide +kernel⟩))
      (ap_cons mo_bH (bH_s (zs := (cl gd).take 20 ++ List.replicate 19 3 ++ [5]) (el_is (el_catN (el_catN (el_sl (ev_var rfl) eo_none (eo_some ev_c) (sq_of gk)) (el_rep (k := 19) (el_lst (ea_cons ev_c ea_nil) (by decide)) ev_c (by decide) (by decide)) (by decide +kernel)) (el_lst (ea_cons ev_c ea_nil) (by decide)) (by decide +kernel)) (by decide +kernel)) (by decide +kernel) (by decide +kernel) (.inr ⟨38, by decide +kernel, by decide +kernel⟩)) ap_nil))) (by decide)) (by decide)) fun v5 H5 e5 hv5 => ?_
    have g5 := e5 g _ g4
    obtain ⟨rp, rows, rfl, hrp, hrl, hrb⟩ := hv5
    have eA : Ex H H5 := (((e1.trans e2).trans e3).trans e4).trans e5
    refine q_forL (ev_var rfl) (sq_of hrp) (fun i σ' H' => ∃ x4, σ' = [some (.int (n : Int)), some (.ref g), some (.ref rp), some (.int ((n % 39 + 1 : Nat) : Int)), x4, none, none, none, none, none, none, none] ∧ LamX.ExtN H5 H' ∧ LamX.Tabs (tbT tP1 tP2) H') (fun H6 e6 => ⟨none, rfl, ext_of e6, hT.ext (eA.trans e6)⟩) (fun i σ' H' hi hv => ?_) (fun i x σ' H' hx hv => ?_) (fun σ' H' hv => ?_)
    · obtain ⟨_, _, eN, _⟩ := hv
      exact sq_of (eN rp _ hrp nt_lst)
    · obtain ⟨x4, rfl, eN, hT'⟩ := hv
      refine allD (i := 4) (j := 5) (v := x) rfl (fun x => rfl) hT' (bad_ext (hrb x (List.mem_of_getElem? hx)) eN) (fun x => rfl) fun H6 eN6 hT6 => ⟨true, rfl, if_no ⟨_, rfl, eN.trans eN6, hT6⟩⟩
    obtain ⟨x4, rfl, eN, hT6⟩ := hv
    refine q_asg (ev_i (b := (n : Int) % 28) (b' := ((n % 28 : Nat) : Int)) (ev_opI (g := fun i j => .int (i % j)) (ev_var rfl) ev_c (by decide)) (by omega)) fun H7 e7 => ?_
    have hk : n % 28 < 28 := Nat.mod_lt _ (by decide)
    have hT7 := hT6.ext e7
    have eN7 : LamX.ExtN H5 H7 := eN.trans (ext_of e7)
    refine t_norm (σ' := [some (.int (n : Int)), some (.ref g), some (.ref rp), some (.int ((n % 39 + 1 : Nat) : Int)), x4, none, some (.int ((n % 28 : Nat) : Int)), none, none, none, none, none]) rfl ?_
    refine q_loopR (R := isSg (n % 28)) (n := 6) (i := 3) rfl (fun y H H' h e => let ⟨z, h1, h2, h3, h4⟩ := h; ⟨z, h1, h2, h3, bad_extM h4 e⟩) (ep_tup (ap_cons mo_sg (sg_1 hk ev_c (.head _) (.head _)) (ap_cons mo_sg (sg_1 hk ev_c (.tail _ (.head _)) (.tail _ (.head _))) (ap_cons mo_sg (sg_1 hk ev_c (.tail _ (.tail _ (.head _))) (.tail _ (.tail _ (.head _)))) (ap_cons mo_sg (sg_2 (m := 27) hk ev_c (.tail _ (.tail _ (.tail _ (.head _)))) (sgn_mk ⟨n % 28, hk⟩).1 (by decide) (by decide)) (ap_cons mo_sg (sg_2 (m := 29) hk ev_c (.tail _ (.tail _ (.tail _ (.tail _ (.head _))))) (sgn_mk ⟨n % 28, hk⟩).2 (by decide) (by decide)) (ap_cons mo_sg (sg_1 hk ev_c (.tail _ (.tail _ (.tail _ (.head _)))) (.tail _ (.tail _ (.tail _ (.tail _ (.tail _ (.head _))))))) ap_nil)))))) (fun P hP => by rw [(List.mem_replicate.mp hP).2]; exact mo_sg) (show 6 ≤ 100000 by decide)) hT7 (fun y H8 eN8 hy E Q' o => ?_) fun x7 H8 eN8 hT8 => ?_
    · obtain ⟨z, rfl, l1, l2, hb⟩ := hy
      exact xx_call (ea_cons ev_c (ea_cons (ev_addS (ev_addS (ev_mulx false (n % 28) sgm rfl (by omega) ev_c (ev_var rfl)) (ev_var rfl) (by omega)) (ev_mulx false (27 - n % 28) sgm (by omega) (by omega) ev_c (ev_opI0 (g := fun i j => .int (i - j)) ev_c (ev_var rfl))) (by omega)) ea_nil)) (fun H9 e9 _ => ⟨_, _, rfl, .inr ⟨hb.mono e9, o.mono e9⟩⟩) H8 (Ex.refl H8) Q'
    refine q_loopR (R := isMk) (n := 8) (i := 3) rfl (fun y H H' h e => bad_extM h e) (ep_tup (ap_cons mo_mk (ep_ev (ev_mulx false 27 sgm rfl (by decide) ev_c ev_c) fun _ _ => .many (bs := List.replicate 27 false) rfl rfl (by decide) (by decide)) (ap_cons mo_mk (ep_ev (ev_addS (ev_mulx false 27 sgm rfl (by decide) ev_c ev_c) ev_c (by decide +kernel)) fun _ _ => .sign rfl rfl (by decide +kernel) (by decide +kernel)) (ap_cons mo_mk (ep_ev (ev_addS (ev_mulx false 28 sgm rfl (by decide) ev_c ev_c) ev_c (by decide +kernel)) fun _ _ => .sign rfl rfl (by decide +kernel) (by decide +kernel)) (ap_cons mo_mk (ep_ev (ev_addS ev_c (ev_mulx false 28 sgm rfl (by decide) ev_c ev_c) (by decide +kernel)) fun _ _ => .sign rfl rfl (by decide +kernel) (by decide +kernel)) (ap_cons mo_mk (ep_ev ev_c fun _ _ => .many (bs := []) rfl (by decide +kernel) (by decide) (by decide)) (ap_cons mo_mk (ep_ev ev_c fun _ _ => .type rfl .non (by decide)) (ap_cons mo_mk (ep_ev ev_c fun _ _ => .type rfl (.int _) (by decide)) (ap_cons mo_mk (ep_el (el_rep (k := 28) (el_lst (ea_cons ev_c ea_nil) (by decide)) ev_c (by decide) (by decide)) fun _ _ _ h => .type rfl (.lst h) (by decide)) ap_nil)))))))) (fun P hP => by rw [(List.mem_replicate.mp hP).2]; exact mo_mk) (by decide)) hT8 (fun y H9 eN9 hb E Q' o => ?_) fun x8 H9 eN9 hT9 => ?_
    · exact xx_call (ea_cons ev_c (ea_cons (ev_var rfl) ea_nil)) (fun H10 e10 _ => ⟨_, _, rfl, .inr ⟨BadM.mono hb e10, o.mono e10⟩⟩) H9 (Ex.refl H9) Q'
    refine q_loopR (R := isSt) (n := 8) (i := 3) rfl (fun y H H' h e => bad_extM h e) (ep_tup (ap_cons mo_st (ep_ev ev_c fun _ _ => .stairs .non rfl) (ap_cons mo_st (ep_ev ev_c fun _ _ => .stairs (.str _) rfl) (ap_cons mo_st (ep_ev ev_c fun _ _ => .stairs (.bl _) rfl) (ap_cons mo_st (ep_el (el_lst (ea_cons ev_c ea_nil) (by decide)) fun _ _ _ h => .stairs (.lst h) rfl) (ap_cons mo_st (ep_ev (ev_neg ev_c) fun _ _ => .stairs (.int _) (by decide)) (ap_cons mo_st (ep_ev (ev_neg (ev_opI (C := CPow) (g := fun i j => .int (i ^ j.toNat)) ev_c ev_c ⟨by decide, by decide, by decide⟩)) fun _ _ => .stairs (.int _) (by decide)) (ap_cons mo_st (ep_ev ev_c fun _ _ => .many (bs := [false, false]) rfl (show V.str "--" = .str (mk [false, false]) by decide +kernel) (by decide) (by decide)) (ap_cons mo_st (ep_ev (ev_opI (C := CPow) (g := fun i j => .int (i ^ j.toNat)) ev_c ev_c ⟨by decide, by decide, by decide⟩) fun _ _ => .many (bs := [false, false]) rfl (show V.str "--" = .str (mk [false, false]) by decide +kernel) (by decide) (by decide)) ap_nil)))))))) (fun P hP => by rw [(List.mem_replicate.mp hP).2]; exact mo_st) (by decide)) hT9 (fun y H10 eN10 hb E Q' o => ?_) fun x9 H10 eN10 hT10 => ?_
    · exact xx_call (ea_cons (ev_var rfl) (ea_cons ev_c ea_nil)) (fun H11 e11 _ => ⟨_, _, rfl, .inr ⟨BadM.mono hb e11, o.mono e11⟩⟩) H10 (Ex.refl H10) Q'
    have eN10' : LamX.ExtN H5 H10 := ((eN7.trans eN8).trans eN9).trans eN10
    refine q_loopR (R := isBT) (n := 6) (i := 1) rfl (fun y H H' h e => let ⟨ty, h1, h2⟩ := h; ⟨ty, th_ext h1 e, h2⟩) (ep_tup (ap_cons mo_bT (bT_t (th_c ev_c fun _ => .non) (by decide)) (ap_cons mo_bT (bT_t (th_c ev_c fun _ => .str _) (by decide)) (ap_cons mo_bT (bT_t (th_c ev_c fun _ => .bl _) (by decide)) (ap_cons mo_bT (bT_t (th_l (el_lst (ea_cons ev_c ea_nil) (by decide))) (by decide)) (ap_cons mo_bT (bT_i (ev_neg ev_c) (by decide)) (ap_cons mo_bT (bT_i (ev_neg (ev_opI (C := CPow) (g := fun i j => .int (i ^ j.toNat)) ev_c ev_c ⟨by decide, by decide, by decide⟩)) (by decide)) ap_nil)))))) (fun P hP => by rw [(List.mem_replicate.mp hP).2]; exact mo_bT) (by decide)) hT10 (fun y H11 eN11 hy E Q' o => ?_) fun x10 H11 eN11 hT11 => ?_
    · obtain ⟨ty, h1, h2⟩ := hy
      exact xx_call (ea_cons (ev_var rfl) (ea_cons (ev_var rfl) ea_nil)) (fun H12 e12 _ => ⟨_, _, rfl, .inl ⟨g, gd, rfl, e12 g _ ((eN10'.trans eN11) g _ g5 nt_lst), gd_hs, .inr ⟨ty, h1.mono e12, h2, o.mono e12⟩⟩⟩) H11 (Ex.refl H11) Q'
    refine q_loopR (R := isBC) (n := 8) (i := 2) rfl (fun y H H' h e => let ⟨ty, h1, h2⟩ := h; ⟨ty, th_ext h1 e, h2⟩) (ep_tup (ap_cons mo_bC (bC_t (th_c ev_c fun _ => .non) (by decide)) (ap_cons mo_bC (bC_t (th_c ev_c fun _ => .str _) (by decide)) (ap_cons mo_bC (bC_t (th_c ev_c fun _ => .bl _) (by decide)) (ap_cons mo_bC (bC_t (th_l (el_lst (ea_cons ev_c ea_nil) (by decide))) (by decide)) (ap_cons mo_bC (bC_i (ev_neg ev_c) (by decide)) (ap_cons mo_bC (bC_i ev_c (by decide)) (ap_cons mo_bC (bC_i (ev_opI0 (g := fun i j => .int (i + j)) ev_c (ev_var rfl)) (by omega)) (ap_cons mo_bC (bC_i (ev_opI (C := CPow) (g := fun i j => .int (i ^ j.toNat)) ev_c ev_c ⟨by decide, by decide, by decide⟩) (by decide)) ap_nil)))))))) (fun P hP => by rw [(List.mem_replicate.mp hP).2]; exact mo_bC) (by decide)) hT11 (fun y H12 eN12 hy E Q' o => ?_) fun x11 H12 eN12 hT12 => ?_
    · exact xx_call (ea_cons (ev_var rfl) ea_nil) (fun H13 e13 _ => ⟨_, rfl, .inr ⟨BadC.mono hy e13, o.mono e13⟩⟩) H12 (Ex.refl H12) Q'
    have eN12' : LamX.ExtN H5 H12 := (eN10'.trans eN11).trans eN12
    have g12 := eN12' g _ g5 nt_lst
    refine q_when (b := false) (et_is (et_test (ev_neI (il_p (be_N 0 gd_hs (ep_ev (ev_var rfl) fun H13 e13 => ⟨g, rfl, e13 g _ g12⟩) ev_c)) (il_r (ns := gd) (ev_var rfl) g12))) (by rw [show tn 0 gd = gd from rfl, decide_eq_true rfl]; rfl)) (fun h => nomatch h) fun _ H13 e13 => ?_
    refine q_when (b := false) (et_is (et_test (ev_neI (a := cl (stand [false, false])) (b := [1]) (il_n (hp_L [false, false] ev_c (ev_s ev_c (by decide +kernel)) (by decide) ⟨by decide, by decide, by decide⟩)) (il_n (el_lst (ea_cons ev_c ea_nil) (by decide))))) (by decide +kernel)) (fun h => nomatch h) fun _ H14 e14 => ?_
    refine q_when (b := false) (et_is (et_test (ev_neI (a := cl (stand [false])) (b := []) (il_n (hp_L [false] ev_c (ev_s ev_c sgm) (by decide) ⟨by decide, by decide, by decide⟩)) (il_n (el_lst ea_nil (by decide))))) (by decide +kernel)) (fun h => nomatch h) fun _ H15 e15 => ?_
    have e16 := (e13.trans e14).trans e15
    exact s_ret (v := .bl true) (ev_bl (ev_eqS (ev_i (ln_V Hs.nil (ep_n (ns := []) (el_lst ea_nil (by decide)))) (show ((pr [] : Nat) : Int) = 1 by decide +kernel)) ev_c rfl) rfl) fun H16 e17 => q H16 (((ext_of eA).trans eN12').trans (ext_of (e16.trans e17))) (hT12.ext (e16.trans e17))
end
end Cw
namespace Cw
open PySem PySem.Spec PyProof.Rows L2 Evl Ch
local macro_rules | `(tactic| walk_at "cond") => `(tactic| first | omega | decide | (show _ ∧ _; constructor <;> first | omega | decide) | (show _ ∨ _; first | (left; constructor <;> omega) | (right; constructor <;> omega)) | (show _ ∧ _ ∧ _; refine ⟨?_, ?_, ?_⟩ <;> first | omega | decide))
local macro_rules | `(tactic| walk_at "ev") => `(tactic| first | ((with_reducible apply ev_var); rfl) | (with_reducible exact ev_c) | ((with_reducible apply ev_opI0) <;> walk_at "ev") | ((with_reducible apply ev_opI); walk_at "ev"; walk_at "ev"; walk_at "cond") | ((with_reducible apply ev_eqS); walk_at "ev"; walk_at "ev"; rfl) | ((with_reducible apply ev_neS); walk_at "ev"; walk_at "ev"; rfl) | ((with_reducible apply ev_isi); walk_at "ev"; walk_at "ev"; (first | exact ty_int | exact ty_bl | exact ty_str | exact ty_lst (by assumption)); (first | exact kit_ty (r := true) (by decide +kernel) | exact kit_ty (r := false) (by decide +kernel))) | ((with_reducible apply ev_notV); walk_at "ev") | ((with_reducible apply ev_sum); walk_at "ev"; exact sq_of (by assumption)) | (apply ev_len; walk_at "ev"; exact sq_of (by assumption)))
local macro_rules | `(tactic| walk_at "et") => `(tactic| first | ((with_reducible apply et_test); walk_at "ev") | ((with_reducible apply et_B); walk_at "ev") | ((with_reducible apply et_not); walk_at "et"))
section
variable {P : Program} {w : World} {K : PySem.W.Frag} {mg : Str → Option Value} {base : Heap}
/-- numbers and texts, and lists of such: how deep at most, how many in all -/
def Sd (H : Hp) : Nat → Nat → V → Prop
  | 0, m, v => m = 1 ∧ ((∃ i, v = .int i) ∨ ∃ z, v = .str z ∧ PyData.strOk z = true)
  | n + 1, m, v => Sd H n m v ∨ ∃ (a : Addr) (ps : List (V × Nat)), v = .ref a ∧ H a = some (.lst (ps.map (·.1))) ∧ (∀ p ∈ ps, Sd H n p.2 p.1) ∧ m = 1 + (ps.map (·.2)).sum
theorem Sd.mono {H H' : Hp} (e : Ex H H') : ∀ {n m : Nat} {v : V}, Sd H n m v → Sd H' n m v
  | 0, _, _, h => h
  | n + 1, _, _, .inl h => .inl (Sd.mono e h)
  | n + 1, _, _, .inr ⟨a, ps, h1, h2, h3, h4⟩ => .inr ⟨a, ps, h1, e a _ h2, fun p hp => Sd.mono e (h3 p hp), h4⟩
theorem Sd.pos {H : Hp} : ∀ {n m : Nat} {v : V}, Sd H n m v → 1 ≤ m
  | 0, _, _, h => by rw [h.1]; exact Nat.le_refl 1
  | n + 1, _, _, .inl h => Sd.pos h
  | n + 1, _, _, .inr ⟨a, ps, h1, h2, h3, h4⟩ => by omega
theorem Sd.what {H : Hp} : ∀ {n m : Nat} {v : V}, Sd H n m v → (m = 1 ∧ ((∃ i, v = .int i) ∨ ∃ z, v = .str z ∧ PyData.strOk z = true)) ∨ ∃ (a : Addr) (ps : List (V × Nat)), v = .ref a ∧ H a = some (.lst (ps.map (·.1))) ∧ (∀ p ∈ ps, Sd H n p.2 p.1) ∧ m = 1 + (ps.map (·.2)).sum
  | 0, _, _, h => .inl h
  | n + 1, _, _, .inl h => by
    rcases Sd.what h with h | ⟨a, ps, h1, h2, h3, h4⟩
    · exact .inl h
    · exact .inr ⟨a, ps, h1, h2, fun p hp => .inl (h3 p hp), h4⟩
  | n + 1, _, _, .inr ⟨a, ps, h1, h2, h3, h4⟩ => .inr ⟨a, ps, h1, h2, fun p hp => .inl (h3 p hp), h4⟩
theorem sd_len {H : Hp} {n : Nat} : ∀ {ps : List (V × Nat)}, (∀ p ∈ ps, Sd H n p.2 p.1) → ps.length ≤ (ps.map (·.2)).sum
  | [], _ => Nat.le_refl 0
  | p :: ps, h => by
    have h1 := Sd.pos (h p (.head _))
    have h2 := sd_len (fun q hq => h q (List.mem_cons_of_mem _ hq))
    rw [List.map_cons, List.sum_cons, List.length_cons]
    omega
theorem dp_list {H : Hp} {n : Nat} (ih : ∀ {m : Nat} {v : V}, Sd H n m v → ∃ d, Dp K H v d ∧ d.canLay0 = true ∧ d.depth ≤ n) : ∀ {ps : List (V × Nat)}, (∀ p ∈ ps, Sd H n p.2 p.1) → ∃ ds, DpAll K H (ps.map (·.1)) ds ∧ PyData.canLayAll0 ds = true ∧ PyData.depthAll ds ≤ n ∧ ds.length = ps.length
  | [], _ => ⟨[], .nil, rfl, Nat.zero_le _, rfl⟩
  | p :: ps, h => by
    obtain ⟨d, h1, h2, h3⟩ := ih (h p (.head _))
    obtain ⟨ds, g1, g2, g3, g4⟩ := dp_list ih (fun q hq => h q (List.mem_cons_of_mem _ hq))
    refine ⟨d :: ds, .cons h1 g1, ?_, ?_, by rw [List.length_cons, List.length_cons, g4]⟩
    · rw [PyData.canLayAll0, h2, g2]
      rfl
    · rw [PyData.depthAll]
      omega
theorem dp_sd {H : Hp} : ∀ {n m : Nat} {v : V}, Sd H n m v → ∃ d, Dp K H v d ∧ d.canLay0 = true ∧ d.depth ≤ n
  | 0, _, _, ⟨_, .inl ⟨i, e⟩⟩ => e ▸ ⟨.int i, .int i, by rw [PyData.canLay0], by rw [PyData.depth]; exact Nat.le_refl 0⟩
  | 0, _, _, ⟨_, .inr ⟨z, e, hz⟩⟩ => e ▸ ⟨.str z, .str z, by rw [PyData.canLay0]; exact hz, by rw [PyData.depth]; exact Nat.le_refl 0⟩
  | n + 1, _, _, .inl h => let ⟨d, h1, h2, h3⟩ := dp_sd h; ⟨d, h1, h2, Nat.le_succ_of_le h3⟩
  | n + 1, _, _, .inr ⟨a, ps, e, h2, h3, h4⟩ => by
    obtain ⟨ds, g1, g2, g3, g4⟩ := dp_list (K := K) (fun h => dp_sd h) h3
    exact e ▸ ⟨.list ds, .lst (sq_of h2) g1, by rw [PyData.canLay0]; exact g2, by rw [PyData.depth]; omega⟩
def sp_sound : Sp := fun vs H Q _ => ∃ (v : V) (n m : Nat), vs = [v] ∧ n ≤ 10 ∧ m ≤ 1000 ∧ Sd H n m v ∧ RetV (.bl true) H Q
theorem ok__law_sound {f : Addr} {fd : FuncData} (T : Tx mg) (F : Fun K "_law_sound" "_law_sound" s__law_sound f fd) : FnOk P w K mg base CX0 1 f fd ["_law_thing"] sp_sound := by
  refine F.ok sc__law_sound (fun vs H Q E h => ?_) (fun cdv A outer s H vs Q E hr h => ?_)
  · obtain ⟨_, _, _, rfl, _⟩ := h
    rfl
  · obtain ⟨v, n, m, rfl, hn, hm, hS, q⟩ := h
    refine ⟨_, (pss_cons (ps_set (i := 1) sc__law_sound.nd rfl (Or.inl rfl) (pe_lst (pa_cons (pv 0) pa_nil)))
      (pss_cons (ps_while PassesOwn.never (pt_cmpR (r := rNeD K) (op_neD hr.units) (pv 1) (pe_lst pa_nil) (nomark _)) (pss_cons (ps_set (i := 2) sc__law_sound.nd rfl (Or.inl rfl) (pe_bm0 PySem.F.plainAttrs_list PySem.F.slot_list_pop PySem.F.type_list_pop mt_pop (pv 1)))
        (pss_one (ps_if (PW.pt (pw_or (pt_val (pe_callB (r := rIsi K) call_isi (by rfl) T.b_isinstance (by decide +kernel) (pa_cons (pv 2) (pa_cons (pe_bltn (v := .ty "list") (by rfl) T.b_list (by decide +kernel) rfl) pa_nil)))) (pw_or1 (pt_val (pe_callB (r := rIsi K) call_isi (by rfl) T.b_isinstance (by decide +kernel) (pa_cons (pv 2) (pa_cons (pe_bltn (v := .ty "tuple") (by rfl) T.b_tuple (by decide +kernel) rfl) pa_nil))))))) (pss_one (ps_expr (pe_bm PySem.F.plainAttrs_list PySem.F.slot_list_extend PySem.F.type_list_extend mt_extend (pv 1) (pa_cons (pe_callTy (r := rListS K) call_list_of (by rfl) T.b_list (by decide +kernel) (pa_cons (pv 2) pa_nil)) pa_nil)))) (pss_one (ps_if (PW.pt (pw_or (pt_val (pe_callB (r := rIsi K) call_isi (by rfl) T.b_isinstance (by decide +kernel) (pa_cons (pv 2) (pa_cons (pe_bltn (v := .ty "bool") (by rfl) T.b_bool (by decide +kernel) rfl) pa_nil)))) (pw_or1 (PW.pt (pw_and (pt_cmpR op_notN (pv 2) pe_non (nomark _)) (pw_and (pt_not (pt_val (pe_callB (r := rIsi K) call_isi (by rfl) T.b_isinstance (by decide +kernel) (pa_cons (pv 2) (pa_cons (pe_bltn (v := .ty "int") (by rfl) T.b_int (by decide +kernel) rfl) pa_nil))))) (pw_and1 (pt_not (pt_val (pe_callB (r := rIsi K) call_isi (by rfl) T.b_isinstance (by decide +kernel) (pa_cons (pv 2) (pa_cons (pe_bltn (v := .ty "str") (by rfl) T.b_str (by decide +kernel) rfl) pa_nil)))))))))))) (pss_one (ps_ret pe_bl)) pss_nil))))))
      (pss_one (ps_ret pe_bl)))), ?_⟩
    refine q_asgL (el_lst (ea_cons (ev_var rfl) ea_nil) (show 1 ≤ 100000 by decide)) fun u H1 hu e1 h1 => ?_
    refine q_while (fun k σ' H' => ∃ x2 ps, σ' = [some v, some (.ref u), x2] ∧ Ex H H' ∧ H' u = some (.lst (ps.map (·.1))) ∧ (∀ p ∈ ps, Sd H n p.2 p.1) ∧ (ps.map (·.2)).sum = k ∧ k ≤ 1000) m ⟨none, [(v, m)], rfl, e1, h1, fun p hp => by rw [List.mem_singleton.mp hp]; exact hS, rfl, hm⟩ fun k σ' H' hv => ?_
    obtain ⟨x2, ps, rfl, eX, hw, hA, hk, hk2⟩ := hv
    obtain ⟨ds, d1, d2, d3, d4⟩ := dp_list (K := K) (fun h => dp_sd h) (fun p hp => Sd.mono eX (hA p hp))
    have hsh : SeqAt.shaped (.list ds) = true := by
      unfold SeqAt.shaped
      rw [PyData.canLay0, d2, Bool.true_and]
      exact decide_eq_true (by rw [PyData.depth]; omega)
    have hev := et_test (ev_neD (K := K) (σ := [some v, some (.ref u), x2]) (H := H') (ta := tVar 1) (tb := tLst tNil) (d := .list ds) (e := .list []) (ep_ev (ev_var rfl) fun H2 e2 => dp_mono e2 _ _ (.lst (sq_of hw) d1)) (ep_el (el_lst ea_nil (by decide)) fun a H2 _ h => .lst (sq_of h) .nil) hsh (by decide +kernel))
    rcases List.eq_nil_or_concat ps with rfl | ⟨ps', p, ep⟩
    · have : ds = [] := List.length_eq_zero_iff.mp d4
      subst this
      exact ⟨_, hev, fun h => absurd h (by decide +kernel), fun _ H2 e2 => s_ret ev_c fun H3 e3 => q H3 ((eX.trans e2).trans e3)⟩
    · rw [List.concat_eq_append] at ep
      subst ep
      refine ⟨_, hev, fun _ H2 e2 => ?_, fun h => ?_⟩
      · refine ⟨fun σ2 H2 => ∃ x2 ps k', k' < k ∧ σ2 = [some v, some (.ref u), x2] ∧ Ex H H2 ∧ H2 u = some (.lst (ps.map (·.1))) ∧ (∀ p ∈ ps, Sd H n p.2 p.1) ∧ (ps.map (·.2)).sum = k' ∧ k' ≤ 1000, fun σ2 H2 ⟨x2, ps, k', h0, h⟩ => ⟨k', h0, x2, ps, h⟩, ?_⟩
        have hw2 := e2 u _ hw
        have hl : ((ps' ++ [p]).map (·.1))[((ps' ++ [p]).map (·.1)).length - 1]? = some p.1 := by
          rw [List.map_append, List.length_append, List.map_cons, List.map_nil]
          simp
        refine q_raw ⟨.ref u, rfl, Or.inl ⟨rfl, _, sq_of hw2⟩, u, _, p.1, rfl, rfl, hw2, hl, ?_⟩
        have hdl : ((ps' ++ [p]).map (·.1)).dropLast = ps'.map (·.1) := by
          rw [List.map_append, List.map_cons, List.map_nil, List.dropLast_concat]
        rw [hdl]
        have hks : (ps'.map (·.2)).sum + p.2 = k := by
          rw [← hk, List.map_append, List.sum_append, List.map_cons, List.map_nil, List.sum_cons, List.sum_nil, Nat.add_zero]
        have e3 : Ex H (upd H2 u (.lst (ps'.map (·.1)))) := Ex.mut (eX.trans e2) hu
        have hw3 : upd H2 u (.lst (ps'.map (·.1))) u = some (.lst (ps'.map (·.1))) := upd_same
        generalize upd H2 u (.lst (ps'.map (·.1))) = H3 at e3 hw3
        have hA' : ∀ q ∈ ps', Sd H n q.2 q.1 := fun q hq => hA q (List.mem_append_left _ hq)
        obtain ⟨y, kp⟩ := p
        have hp : Sd H n kp y := hA (y, kp) (List.mem_append_right _ (.head _))
        have hp1 := Sd.pos hp
        have hks : (ps'.map (·.2)).sum + kp = k := hks
        show tIfS _ _ _ _ [some v, some (.ref u), some y] H3
        rcases Sd.what hp with ⟨e, hb⟩ | ⟨a, ps2, rfl, ha, hA2, ek⟩
        · have hth : ∃ ty, ThV H3 y ty ∧ subT ty "list" = false ∧ subT ty "tuple" = false ∧ subT ty "bool" = false ∧ (subT ty "int" || subT ty "str") = true := by
            rcases hb with ⟨i, rfl⟩ | ⟨z, rfl, _⟩
            · exact ⟨"int", .int i, rfl, rfl, rfl, rfl⟩
            · exact ⟨"str", .str z, rfl, rfl, rfl, rfl⟩
          obtain ⟨ty, hty, t1, t2, t3, t4⟩ := hth
          refine s_if (b := false) (et_is (et_or (et_B (ev_isiT (ev_var rfl) ev_c hty (by decide))) fun _ => et_B (ev_isiT (ev_var rfl) ev_c hty (by decide))) (by rw [t1, t2]; rfl)) (fun h => nomatch h) fun _ H4 e4 => ?_
          have hty4 := hty.mono e4
          have hnn : Ev (tOp (fun x y H Q => y = V.non ∧ Q (V.bl !decide (x = V.non)) H) (tVar 2) (tC V.non)) [some v, some (.ref u), some y] H4 (.bl (!decide (y = .non))) := fun H5 e5 Q q => ⟨y, rfl, rfl, q H5 (Ex.refl H5)⟩
          refine s_when (b := false) (et_is (et_or (et_B (ev_isiT (ev_var rfl) ev_c hty4 (by decide))) fun _ => et_and (et_test hnn) fun _ => et_and (et_not (et_B (ev_isiT (ev_var rfl) ev_c hty4 (by decide)))) fun _ => et_not (et_B (ev_isiT (ev_var rfl) ev_c hty4 (by decide)))) ?_) (fun h => nomatch h) fun _ H5 e5 => ?_
          · rw [t3, Bool.false_or, ← Bool.not_or, t4, Bool.not_true, Bool.and_false]
          · exact ⟨_, ps', (ps'.map (·.2)).sum, by omega, rfl, (e3.trans e4).trans e5, e5 u _ (e4 u _ hw3), hA', rfl, by omega⟩
        · have hty : ThV H3 (.ref a) "list" := .lst (e3 a _ ha)
          refine s_if (b := true) (et_is (et_or (b := subT "list" "tuple") (et_B (ev_isiT (ev_var rfl) ev_c hty (by decide))) fun _ => et_B (ev_isiT (ev_var rfl) ev_c hty (by decide))) rfl) (fun _ H4 e4 => ?_) (fun h => nomatch h)
          have l1 := sd_len hA'
          have l2 := sd_len hA2
          refine s_ext (e4 u _ hw3) (ev_var rfl) (ep_el (P := fun v H' => ∃ b, v = .ref b ∧ H' b = some (.lst (ps2.map (·.1)))) (el_list (ev_var rfl) (sq_of (e4 a _ (e3 a _ ha)))) fun b H5 _ h => ⟨b, rfl, h⟩) fun b H5 e5 hb => ?_
          obtain ⟨b, rfl, hb⟩ := hb
          refine ⟨b, _, rfl, hb, by rw [List.length_map, List.length_map]; omega, _, ps' ++ ps2, _, ?_, rfl, Ex.mut ((e3.trans e4).trans e5) hu, by rw [upd_same, List.map_append], fun q hq => ?_, rfl, ?_⟩
          · rw [List.map_append, List.sum_append]
            omega
          · rcases List.mem_append.mp hq with hq | hq
            · exact hA' q hq
            · exact hA2 q hq
          · rw [List.map_append, List.sum_append]
            omega
      · exfalso
        cases ds with
        | nil => rw [List.length_append] at d4; exact absurd d4 (by simp)
        | cons d ds => simp [PyData.eqv, PyData.eqvAll] at h
end
end Cw
namespace Cw
open PySem PySem.Spec PyProof.Rows L2 Evl Ch
local macro_rules | `(tactic| walk_at "cond") => `(tactic| first | omega | decide | (show _ ∧ _; constructor <;> first | omega | decide) | (show _ ∨ _; first | (left; constructor <;> omega) | (right; constructor <;> omega)) | (show _ ∧ _ ∧ _; refine ⟨?_, ?_, ?_⟩ <;> first | omega | decide))
local macro_rules | `(tactic| walk_at "ev") => `(tactic| first | ((with_reducible apply ev_var); rfl) | (with_reducible exact ev_c) | ((with_reducible apply ev_opI0) <;> walk_at "ev") | ((with_reducible apply ev_opI); walk_at "ev"; walk_at "ev"; walk_at "cond") | ((with_reducible apply ev_eqS); walk_at "ev"; walk_at "ev"; rfl) | ((with_reducible apply ev_neS); walk_at "ev"; walk_at "ev"; rfl) | ((with_reducible apply ev_isi); walk_at "ev"; walk_at "ev"; (first | exact ty_int | exact ty_bl | exact ty_str | exact ty_lst (by assumption)); (first | exact kit_ty (r := true) (by decide +kernel) | exact kit_ty (r := false) (by decide +kernel))) | ((with_reducible apply ev_notV); walk_at "ev") | ((with_reducible apply ev_sum); walk_at "ev"; exact sq_of (by assumption)) | (apply ev_len; walk_at "ev"; exact sq_of (by assumption)))
local macro_rules | `(tactic| walk_at "et") => `(tactic| first | ((with_reducible apply et_test); walk_at "ev") | ((with_reducible apply et_B); walk_at "ev") | ((with_reducible apply et_not); walk_at "et"))
section
variable {P : Program} {w : World} {K : PySem.W.Frag} {mg : Str → Option Value} {base : Heap}
theorem ok_mk (bs : List Bool) : PyData.strOk (mk bs) = true := by
  unfold PyData.strOk
  rw [← Array.all_toList, mk_cps]
  refine List.all_eq_true.mpr fun c hc => ?_
  obtain ⟨b, _, rfl⟩ := List.mem_map.mp hc
  cases b <;> decide +kernel
theorem hs31 : Hs [3, 1] := ⟨by decide, by decide, by decide⟩
theorem ahd31 : ahd [3, 1] = [[2, 1, 1], [4]] := by decide +kernel
def isSd (n m : Nat) : V → Hp → Prop := fun v H => Sd H n m v
theorem mo_sd {n m : Nat} : Mo (isSd n m) := fun _ _ _ e h => Sd.mono e h
theorem sd_i {H : Hp} {n : Nat} {i : Int} : Sd H n 1 (.int i) := by
  induction n with
  | zero => exact ⟨rfl, .inl ⟨i, rfl⟩⟩
  | succ n ih => exact .inl ih
theorem sd_s {H : Hp} {n : Nat} {z : Str} (h : PyData.strOk z = true) : Sd H n 1 (.str z) := by
  induction n with
  | zero => exact ⟨rfl, .inr ⟨z, rfl, h⟩⟩
  | succ n ih => exact .inl ih
theorem sum_one : ∀ (l : List V), ((l.map fun x => (x, 1)).map (·.2)).sum = l.length
  | [] => rfl
  | a :: l => by rw [List.map_cons, List.map_cons, List.sum_cons, sum_one l, List.length_cons]; omega
theorem sd_n {H : Hp} {n : Nat} {ns : List Nat} {v : V} (h : isN ns v H) : Sd H (n + 1) (1 + ns.length) v := by
  obtain ⟨a, rfl, ha⟩ := h
  refine .inr ⟨a, (LI ns).map fun x => (x, 1), rfl, by rw [ha, List.map_map]; exact congrArg _ (congrArg _ (List.map_id _).symm), fun p hp => ?_, by rw [sum_one, LI_len]⟩
  obtain ⟨x, hx, rfl⟩ := List.mem_map.mp hp
  obtain ⟨i, _, rfl⟩ := List.mem_map.mp hx
  exact sd_i
theorem sd_all {H : Hp} {n : Nat} : ∀ {ms : List Nat} {xs : List V}, AllP H (ms.map (isSd n)) xs → ∃ ps : List (V × Nat), ps.map (·.1) = xs ∧ ps.map (·.2) = ms ∧ ∀ p ∈ ps, Sd H n p.2 p.1
  | [], _, h => by
    cases h
    exact ⟨[], rfl, rfl, fun p hp => absurd hp List.not_mem_nil⟩
  | m :: ms, _, h => by
    cases h with
    | cons h r =>
      obtain ⟨ps, h1, h2, h3⟩ := sd_all r
      refine ⟨(_, m) :: ps, by rw [List.map_cons, h1], by rw [List.map_cons, h2], fun p hp => ?_⟩
      rcases List.mem_cons.mp hp with rfl | hp
      · exact h
      · exact h3 p hp
theorem sd_disp {H : Hp} {n : Nat} {ms : List Nat} {v : V} (h : isDisp (ms.map (isSd n)) v H) : Sd H (n + 1) (1 + ms.sum) v := by
  obtain ⟨a, xs, rfl, ha, hA⟩ := h
  obtain ⟨ps, h1, h2, h3⟩ := sd_all hA
  exact .inr ⟨a, ps, rfl, by rw [h1]; exact ha, h3, by rw [h2]⟩
section
variable {σ : L2.St} {H : Hp} {te : TE} {ns : List Nat} {Es : L2.St → XK} {BH : Addr}
theorem tu_L (hs : Hs ns) {a : Addr} (ha : H a = some (.lst (LI ns))) (h : Ev te σ H (.ref a)) : EvL (tCallS (sp_turned BH) Es (tCons te tNil)) σ H (LI (turn ns)) := el_callS (ea_cons h ea_nil) fun H1 e Q q => ⟨_, rfl, .inl ⟨a, ns, rfl, e a _ ha, hs, q⟩⟩
theorem ah_F (hs : Hs ns) {a : Addr} (ha : H a = some (.lst (LI ns))) (h : Ev te σ H (.ref a)) {Q : VK} (q : ∀ v H2, Ex H H2 → isAhd H (ahd ns) v H2 → Q v H2) : tCallS (sp_ahead BH) Es (tCons te tNil) σ H Q :=
  (ea_cons h ea_nil : EvA (tCons te tNil) σ H [.ref a]) H (Ex.refl H) _ fun H1 e1 => ⟨_, rfl, .inl ⟨a, ns, rfl, e1 a _ ha, hs, fun v H2 e2 hv => q v H2 (e1.trans e2) (by
    obtain ⟨p, xs, h1, h2, h3, h4⟩ := hv
    have imp : ∀ {Ps : List (List Nat)} {xs : List V}, AllP H2 (Ps.map (isNX H1 p)) xs → AllP H2 (Ps.map (isNX H p)) xs := by
      intro Ps
      induction Ps with
      | nil => intro xs h; exact h
      | cons q Ps ih =>
        intro xs h
        cases h with
        | cons h r =>
          obtain ⟨r0, g1, g2, g3, g4⟩ := h
          exact .cons ⟨r0, g1, g2, fresh_back e1 g3, g4⟩ (ih r)
    exact ⟨p, xs, h1, fresh_back e1 h2, h3, imp h4⟩)⟩⟩
theorem ep_ahdD {hss : List (List Nat)} (h : EvP te σ H (fun v H1 => ∃ H0, isAhd H0 hss v H1)) : EvP te σ H (IsD K (dR (hss.map cl))) := h.imp fun v H1 e ⟨_, p, xs, h1, _, h3, h4⟩ => by
  subst h1
  exact dpR (sq_of h3) (each_rows (fun ns v ⟨r, a, _, _, b⟩ => ⟨r, a, b⟩) h4)
/-- t.append(e), the list new -/
theorem q_appN {xs : List V} {v : V} {tv : TE} {tz : TS} {D : Ends} (h : EvL te σ H xs) (hv : Ev tv σ H v) (hz : xs.length ≤ 1000) (k : ∀ H1, Ex H H1 → tz D σ H1) : tSeq (tDrop (tBM K "list" rAppend te (tCons tv tNil))) tz D σ H :=
  h H (Ex.refl H) _ fun p H1 hp e1 h1 => ⟨Or.inl ⟨rfl, _, sq_of h1⟩, hv H1 e1 _ fun H2 e2 => ⟨p, xs, v, rfl, rfl, e2 p _ h1, sz_lt (by omega), k _ (Ex.mut (e1.trans e2) hp)⟩⟩
/-- t.append(e) -/
theorem q_appV {xs : List V} {v : V} {a : Addr} {tv : TE} {tz : TS} {D : Ends} (h : Ev te σ H (.ref a)) (ha : H a = some (.lst xs)) (hv : Ev tv σ H v) (hz : xs.length ≤ 1000) (k : ∀ H1, Ex H H1 → tz D σ (upd H1 a (.lst (xs ++ [v])))) : tSeq (tDrop (tBM K "list" rAppend te (tCons tv tNil))) tz D σ H :=
  h H (Ex.refl H) _ fun H1 e1 => ⟨Or.inl ⟨rfl, _, sq_of (e1 a _ ha)⟩, hv H1 e1 _ fun H2 e2 => ⟨a, xs, v, rfl, rfl, (e1.trans e2) a _ ha, sz_lt (by omega), k H2 (e1.trans e2)⟩⟩
end
def sp_toldr (R : Addr) : Sp := fun vs H Q _ => ∃ (a p dx : Addr) (s : Int) (m : Str), vs = [.ref a, .ref p] ∧ H a = some (.lst (LI [3, 1])) ∧ H p = some (.ins R dx (rF (.int s) (.str m))) ∧ PyData.strOk m = true ∧ RetV (.bl true) H Q
theorem ok__law_told_right {f : Addr} {fd : FuncData} {R S BH BT BC : Addr} (T : Tx mg) (C : Clx K R S) (F : Fun K "_law_told_right" "_law_told_right" s__law_told_right f fd) (c_turned : CalX P w K mg base 3 "turned" (sp_turned BH)) (c_behind : CalX P w K mg base 3 "behind" (sp_behind BH BT)) (c_ahead : CalX P w K mg base 3 "ahead" (sp_ahead BH)) (c_length : CalX P w K mg base 4 "length" (sp_length BH)) (c_rounds : CalX P w K mg base 2 "rounds" (sp_rounds BC)) (c__law_sound : Cal P w K mg base 1 "_law_sound" sp_sound) : FnOk P w K mg base CX0 5 f fd ["_law_mine", "_law_first"] (sp_toldr R) := by
  refine F.ok sc__law_told_right (fun vs H Q E h => ?_) (fun cdv A outer s H vs Q E hr h => ?_)
  · obtain ⟨_, _, _, _, _, rfl, _⟩ := h
    rfl
  · obtain ⟨a, p, dx, sx, m, rfl, ha, hp, hm, q⟩ := h
    refine ⟨_, (pss_cons (ps_expr (pe_bm PySem.F.plainAttrs_list PySem.F.slot_list_append PySem.F.type_list_append mt_append (pe_cX c_turned hr (by decide) (by rfl) takesN (pa_cons (pv 0) pa_nil)) (pa_cons pe_int pa_nil)))
      (pss_cons (ps_set (i := 2) sc__law_told_right.nd rfl (Or.inl rfl) (pe_cX c_ahead hr (by decide) (by rfl) takesN (pa_cons (pv 0) pa_nil)))
      (pss_cons (ps_expr (pe_bm PySem.F.plainAttrs_list PySem.F.slot_list_append PySem.F.type_list_append mt_append (pv 2) (pa_cons pe_non pa_nil)))
      (pss_cons (ps_expr (pe_bm PySem.F.plainAttrs_list PySem.F.slot_list_append PySem.F.type_list_append mt_append (pe_ix (r := rIxL K) ix_list (pv 2) pe_int (fun _ _ => rfl)) (pa_cons pe_int pa_nil)))
      (pss_cons (ps_if (pt_cmpR (r := rNeD K) (op_neD hr.units) (pv 0) (pe_lst (pa_cons pe_int (pa_cons pe_int pa_nil))) (nomark _)) (pss_one (ps_ret pe_bl)) pss_nil)
      (pss_cons (ps_if (pt_cmpR (r := rEqD K) (op_eqD hr.units) (pe_cX c_ahead hr (by decide) (by rfl) takesN (pa_cons (pv 0) pa_nil)) (pv 2) (nomark _)) (pss_one (ps_ret pe_bl)) pss_nil)
      (pss_cons (ps_if (pt_not (pt_val (pe_callB (r := rAll K) (cr_all rfl) (by rfl) T.b_all (by decide +kernel) (pa_cons (pe_lc (own := [("_law_heaps", 3)]) (by rfl) sc__law_told_right.nd (pi_list (pe_cX c_ahead hr (by decide) (by rfl) takesN (pa_cons (pv 0) pa_nil))) (blkOk_by (N := N__law_told_right) (sc := defScope s__law_told_right) (by decide +kernel)) (fun _ _ _ _ _ => (pg_name (i := 3) sc__law_told_right.nd rfl (Or.inl rfl))) (fun _ _ _ _ _ => pts_nil) (fun _ _ _ _ _ => (pe_cmpR (r := rEqD K) (op_eqD hr.units) (pe_cX c_turned hr (by decide) (by rfl) takesN (pa_cons (pv 3) pa_nil)) (pv 0) (nomark _)))) pa_nil)))) (pss_one (ps_ret pe_bl)) pss_nil)
      (pss_one (ps_ret (pe_c c__law_sound hr (by decide) (by rfl) (pa_cons (pe_lst (pa_cons (pe_cX c_turned hr (by decide) (by rfl) takesN (pa_cons (pv 0) pa_nil)) (pa_cons (pe_cX c_length hr (by decide) (by rfl) takesN (pa_cons (pv 0) pa_nil)) (pa_cons (pe_fld (pv 1) rfl) (pa_cons (pe_fld (pv 1) rfl) (pa_cons (pe_cX c_ahead hr (by decide) (by rfl) takesN (pa_cons (pv 0) pa_nil)) (pa_cons (pe_cX c_rounds hr (by decide) (by rfl) takesN (pa_cons pe_int pa_nil)) (pa_cons (pe_cX c_behind hr (by decide) (by rfl) takesN (pa_cons (pv 0) (pa_cons pe_int pa_nil))) pa_nil)))))))) pa_nil))))))))))), ?_⟩
    refine q_appN (tu_L hs31 ha (ev_var rfl)) ev_c (by decide) fun H1 e1 => ?_
    have a1 := e1 a _ ha
    refine q_raw (ah_F hs31 a1 (ev_var rfl) fun v H2 e2 hv => ?_)
    rw [ahd31] at hv
    obtain ⟨l, xs, rfl, hl0, hl, hA⟩ := hv
    obtain ⟨x0, x1, rfl, ⟨r0, rfl, n0, hr0, h0⟩, ⟨r1, rfl, n1, hr1, h1⟩⟩ := allP_two hA
    refine q_appV (ev_var rfl) hl ev_c (show 2 ≤ 1000 by decide) fun H3 e3 => ?_
    have e4 : Ex H1 (upd H3 l (.lst ([.ref r0, .ref r1] ++ [.non]))) := Ex.mut (e2.trans e3) hl0
    have hl4 : upd H3 l (.lst ([.ref r0, .ref r1] ++ [.non])) l = some (.lst ([.ref r0, .ref r1] ++ [.non])) := upd_same
    have h04 : upd H3 l (.lst ([.ref r0, .ref r1] ++ [.non])) r0 = some (.lst (LI [2, 1, 1])) := by rw [upd_ne n0]; exact e3 r0 _ h0
    have h14 : upd H3 l (.lst ([.ref r0, .ref r1] ++ [.non])) r1 = some (.lst (LI [4])) := by rw [upd_ne n1]; exact e3 r1 _ h1
    generalize upd H3 l (.lst ([.ref r0, .ref r1] ++ [.non])) = H4 at e4 hl4 h04 h14
    have n10 : r1 ≠ r0 := fun z => by
      rw [z, h04] at h14
      exact absurd (HO.lst.inj (Option.some.inj h14)) (by decide)
    refine q_appV (ev_ixLv (ev_var rfl) ev_c (sq_of hl4) rfl) h04 ev_c (by decide) fun H5 e5 => ?_
    have e6 : Ex H1 (upd H5 r0 (.lst (LI [2, 1, 1] ++ [.int 9]))) := Ex.mut (e4.trans e5) hr0
    have hl6 : upd H5 r0 (.lst (LI [2, 1, 1] ++ [.int 9])) l = some (.lst ([.ref r0, .ref r1] ++ [.non])) := by rw [upd_ne n0.symm]; exact e5 l _ hl4
    have h06 : upd H5 r0 (.lst (LI [2, 1, 1] ++ [.int 9])) r0 = some (.lst (LI [2, 1, 1] ++ [.int 9])) := upd_same
    have h16 : upd H5 r0 (.lst (LI [2, 1, 1] ++ [.int 9])) r1 = some (.lst (LI [4])) := by rw [upd_ne n10]; exact e5 r1 _ h14
    generalize upd H5 r0 (.lst (LI [2, 1, 1] ++ [.int 9])) = H6 at e6 hl6 h06 h16
    have a6 := e6 a _ a1
    refine q_when (b := false) (et_is (et_test (ev_neI (a := cl [3, 1]) (b := [3, 1]) (il_r (ns := [3, 1]) (ev_var rfl) a6) (il_n (el_lst (ea_cons ev_c (ea_cons ev_c ea_nil)) (by decide))))) (by decide +kernel)) (fun h => nomatch h) fun _ H7 e7 => ?_
    have a7 := e7 a _ a6
    have d7 : Dp K H7 (.ref l) (.list [dI [2, 1, 1, 9], dI [4], .none]) := .lst (sq_of (e7 l _ hl6)) (.cons (dpI (ns := [2, 1, 1, 9]) (sq_of (e7 r0 _ h06))) (.cons (dpI (ns := [4]) (sq_of (e7 r1 _ h16))) (.cons .non .nil)))
    refine q_when (b := false) (et_is (et_test (ev_eqD (d := dR ((ahd [3, 1]).map cl)) (e := .list [dI [2, 1, 1, 9], dI [4], .none]) (ep_ahdD (ah_N hs31 (ep_ev (ev_var rfl) fun H8 e8 => ⟨a, rfl, e8 a _ a7⟩))) (ep_ev (ev_var rfl) fun H8 e8 => dp_mono e8 _ _ d7) (by rw [ahd31]; decide +kernel) (by decide +kernel))) (by rw [ahd31]; decide +kernel)) (fun h => nomatch h) fun _ H8 e8 => ?_
    have a8 := e8 a _ a7
    have hrow : ∀ ms ∈ [[2, 1, 1], [4]], Hs ms ∧ turn ms = [3, 1] := fun ms hm => by
      simp only [List.mem_cons, List.not_mem_nil, or_false] at hm
      rcases hm with rfl | rfl
      · exact ⟨⟨by decide, by decide, by decide⟩, by decide +kernel⟩
      · exact ⟨⟨by decide, by decide, by decide⟩, by decide +kernel⟩
    refine q_when (b := false) (et_not (et_B (b := true) (ev_allW (R := fun x H => ∃ ms, ms ∈ [[2, 1, 1], [4]] ∧ isN ms x H) ((ah_N hs31 (ep_ev (ev_var rfl) fun H9 e9 => ⟨a, rfl, e9 a _ a8⟩)).imp fun v H9 e9 hv => ?_) (fun x => rfl) fun x H9 e9 hx => ?_))) (fun h => nomatch h) fun _ H9 e9 => ?_
    · rw [ahd31] at hv
      obtain ⟨_, l2, xs, rfl, _, hl2, hA2⟩ := hv
      obtain ⟨y0, y1, rfl, ⟨q0, rfl, _, _, g0⟩, ⟨q1, rfl, _, _, g1⟩⟩ := allP_two hA2
      refine ⟨l2, _, rfl, hl2, by show 0 < 2; decide, by show 2 ≤ 100; decide, fun x hx => ?_⟩
      simp only [List.mem_cons, List.not_mem_nil, or_false] at hx
      rcases hx with rfl | rfl
      · exact ⟨_, .head _, q0, rfl, g0⟩
      · exact ⟨_, .tail _ (.head _), q1, rfl, g1⟩
    · obtain ⟨ms, hm, r, rfl, hr⟩ := hx
      obtain ⟨hs, ht⟩ := hrow ms hm
      exact ev_bl (ev_eqI (il_p (tu_N hs (ep_ev (ev_var rfl) fun H10 e10 => ⟨r, rfl, e10 r _ hr⟩))) (il_r (ns := [3, 1]) (ev_var rfl) (e9 a _ a8))) (by rw [ht]; exact decide_eq_true rfl)
    have a9 := e9 a _ a8
    have p9 := ((((e1.trans e6).trans e7).trans e8).trans e9) p _ hp
    have isM : ∀ {H10}, Ex H9 H10 → isN [3, 1] (.ref a) H10 := fun e10 => ⟨a, rfl, e10 a _ a9⟩
    refine s_ret (v := .bl true) (ev_callP (ap_cons (P := isSd 3 (1 + [1 + 2, 1, 1, 1, 1 + [1 + 3, 1 + 1].sum, 1, 1 + 2].sum)) mo_sd ((ep_lst (Ps := [1 + 2, 1, 1, 1, 1 + [1 + 3, 1 + 1].sum, 1, 1 + 2].map (isSd 2)) (ap_cons mo_sd ((tu_N hs31 (ep_ev (ev_var rfl) fun H10 e10 => isM e10)).imp fun v H10 _ h => sd_n h)
      (ap_cons mo_sd (ep_ev (ln_V hs31 (ep_ev (ev_var rfl) fun H10 e10 => isM e10)) fun _ _ => sd_i)
      (ap_cons mo_sd (ep_ev (ev_fld (ev_var rfl) p9 C.clR C.nRs (rF_stairs _ _)) fun _ _ => sd_i)
      (ap_cons mo_sd (ep_ev (ev_fld (ev_var rfl) p9 C.clR C.nRm (rF_marks _ _)) fun _ _ => sd_s hm)
      (ap_cons mo_sd ((ah_N hs31 (ep_ev (ev_var rfl) fun H10 e10 => isM e10)).imp fun v H10 _ hv => ?_)
      (ap_cons mo_sd (ep_ev (rn_V 5 1 (by decide) ev_c (by decide +kernel)) fun _ _ => sd_i)
      (ap_cons mo_sd ((be_N 4 hs31 (ep_ev (ev_var rfl) fun H10 e10 => isM e10) ev_c).imp fun v H10 _ h => sd_n h) ap_nil))))))) (fun P hP => ?_) (by decide)).imp fun v H10 _ h => sd_disp h) ap_nil) fun H10 vs e10 ps => ?_) fun H10 e10 => q H10 (((((e1.trans e6).trans e7).trans e8).trans e9).trans e10)
    · rw [ahd31] at hv
      obtain ⟨_, l2, xs, rfl, _, hl2, hA2⟩ := hv
      obtain ⟨y0, y1, rfl, ⟨q0, rfl, _, _, g0⟩, ⟨q1, rfl, _, _, g1⟩⟩ := allP_two hA2
      exact sd_disp (n := 1) (ms := [1 + 3, 1 + 1]) ⟨l2, _, rfl, hl2, .cons (sd_n (n := 0) (ns := [2, 1, 1]) ⟨q0, rfl, g0⟩) (.cons (sd_n (n := 0) (ns := [4]) ⟨q1, rfl, g1⟩) .nil)⟩
    · obtain ⟨m, _, rfl⟩ := List.mem_map.mp hP
      exact mo_sd
    · obtain ⟨v, rfl, hv⟩ := allP_one ps
      exact fun H11 e11 Q' q' _ => ⟨v, 3, _, rfl, by decide, by decide, Sd.mono e11 hv, q'⟩
end
end Cw
namespace Cw
open PySem PySem.Spec PyProof.Rows L2 Evl Ch
local macro_rules | `(tactic| walk_at "cond") => `(tactic| first | omega | decide | (show _ ∧ _; constructor <;> first | omega | decide) | (show _ ∨ _; first | (left; constructor <;> omega) | (right; constructor <;> omega)) | (show _ ∧ _ ∧ _; refine ⟨?_, ?_, ?_⟩ <;> first | omega | decide))
local macro_rules | `(tactic| walk_at "ev") => `(tactic| first | ((with_reducible apply ev_var); rfl) | (with_reducible exact ev_c) | ((with_reducible apply ev_opI0) <;> walk_at "ev") | ((with_reducible apply ev_opI); walk_at "ev"; walk_at "ev"; walk_at "cond") | ((with_reducible apply ev_eqS); walk_at "ev"; walk_at "ev"; rfl) | ((with_reducible apply ev_neS); walk_at "ev"; walk_at "ev"; rfl) | ((with_reducible apply ev_isi); walk_at "ev"; walk_at "ev"; (first | exact ty_int | exact ty_bl | exact ty_str | exact ty_lst (by assumption)); (first | exact kit_ty (r := true) (by decide +kernel) | exact kit_ty (r := false) (by decide +kernel))) | ((with_reducible apply ev_notV); walk_at "ev") | ((with_reducible apply ev_sum); walk_at "ev"; exact sq_of (by assumption)) | (apply ev_len; walk_at "ev"; exact sq_of (by assumption)))
local macro_rules | `(tactic| walk_at "et") => `(tactic| first | ((with_reducible apply et_test); walk_at "ev") | ((with_reducible apply et_B); walk_at "ev") | ((with_reducible apply et_not); walk_at "et"))
section
variable {P : Program} {w : World} {K : PySem.W.Frag} {mg : Str → Option Value} {base : Heap}
theorem hs21 : Hs [2, 1] := ⟨by decide, by decide, by decide⟩
theorem to_T {σ : L2.St} {H : Hp} {R S : Addr} {ns : List Nat} {Es : L2.St → XK} {BH : Addr} {te : TE} (hs : Hs ns) (h : EvP te σ H (isN ns)) : EvP (tCallS (sp_told R S BH) Es (tCons te tNil)) σ H (isTold R S ns) := ep_callSP (ap_cons mo_n h ap_nil) fun H1 vs e ps Q q => by
  obtain ⟨_, rfl, b, rfl, hb⟩ := allP_one ps
  exact ⟨_, rfl, .inl ⟨b, ns, rfl, hb, hs, q⟩⟩
theorem sh_V {σ : L2.St} {H : Hp} {R p dx a : Addr} {s : Int} {m : Str} {ns : List Nat} {i j : Nat} {b : Bool} {t2 : TE} (hi : σ[i]? = some (some (.ref p))) (hj : σ[j]? = some (some (.ref a))) (hp : H p = some (.ins R dx (rF (.int s) (.str m)))) (ha : H a = some (.lst (LI ns))) (hs : Hs ns) (hb : shR s m ns = b) : Ev (tAlt (tMeth R "shows" (sp_Round_shows R) [] E0 (tVar i) (tCons (tVar j) tNil)) t2) σ H (.bl b) :=
  ev_bl (ev_altL (ev_meth (ev_var hi) hp (rF_no _ _ (by decide +kernel) (by decide +kernel)) (ea_cons (ev_var hj) ea_nil) (spv_Round_shows hp ha hs))) hb
theorem mk31 : marks [3, 1] = some [true, false, false] := by decide +kernel
theorem mk21 : marks [2, 1] = some [false, false, false] := by decide +kernel
def sp_changed : Sp := fun vs H Q _ => vs = [] ∧ RetV (.bl true) H Q
theorem ok__law_changed_right {f : Addr} {fd : FuncData} {AA R S BH : Addr} (T : Tx mg) (C : Clx K R S) (D : Cly K mg AA R S) (F : Fun K "_law_changed_right" "_law_changed_right" s__law_changed_right f fd) (t_Round_shows : CMt P w K mg base 3 R "shows" (sp_Round_shows R)) (t_Straight_shows : CMt P w K mg base 4 S "shows" (sp_Straight_shows S)) (c_turned : CalX P w K mg base 3 "turned" (sp_turned BH)) (c_told : CalX P w K mg base 4 "told" (sp_told R S BH)) (c_length : CalX P w K mg base 4 "length" (sp_length BH)) (c__law_told_right : Cal P w K mg base 5 "_law_told_right" (sp_toldr R)) : FnOk P w K mg base CX0 6 f fd [] sp_changed := by
  refine F.ok sc__law_changed_right (fun vs H Q E h => ?_) (fun cdv A outer s H vs Q E hr h => ?_)
  · rw [h.1]
    rfl
  · obtain ⟨rfl, q⟩ := h
    refine ⟨_, (pss_cons (ps_set (i := 0) sc__law_changed_right.nd rfl (Or.inl rfl) (pe_lst (pa_cons pe_int (pa_cons pe_int pa_nil))))
      (pss_cons (ps_set (i := 1) sc__law_changed_right.nd rfl (Or.inl rfl) (pe_cX c_told hr (by decide) (by rfl) takesN (pa_cons (pv 0) pa_nil)))
      (pss_cons (ps_if (pt_cmpR op_ne (pe_cX c_length hr (by decide) (by rfl) takesN (pa_cons (pv 0) pa_nil)) pe_int (nomark _)) (pss_one (ps_ret pe_bl)) pss_nil)
      (pss_cons (ps_if (pt_not (pt_val (pe_callB (r := rIsi K) call_isi (by rfl) T.b_isinstance (by decide +kernel) (pa_cons (pv 1) (pa_cons (pe_glob (v := .ref R) (by rfl) D.gR rfl) pa_nil))))) (pss_one (ps_ret pe_bl)) pss_nil)
      (pss_cons (ps_if (pt_cmpR (r := rNeD K) (op_neD hr.units) (pe_cX c_turned hr (by decide) (by rfl) takesN (pa_cons (pv 0) pa_nil)) (pe_lst (pa_cons pe_int (pa_cons pe_int pa_nil))) (nomark _)) (pss_one (ps_ret pe_bl)) pss_nil)
      (pss_cons (ps_if (pt_cmpR op_isnot_bl (pe_alt (pe_mt t_Round_shows hr (by decide) (pv 1) (pa_cons (pv 0) pa_nil)) (pe_mt t_Straight_shows hr (by decide) (pv 1) (pa_cons (pv 0) pa_nil))) pe_bl (nomark _)) (pss_one (ps_ret pe_bl)) pss_nil)
      (pss_cons (ps_asg pe_int (pg_sub (pv 0) pe_int set_list))
      (pss_cons (ps_set (i := 2) sc__law_changed_right.nd rfl (Or.inl rfl) (pe_cX c_told hr (by decide) (by rfl) takesN (pa_cons (pv 0) pa_nil)))
      (pss_cons (ps_if (pt_cmpR op_ne (pe_cX c_length hr (by decide) (by rfl) takesN (pa_cons (pv 0) pa_nil)) pe_int (nomark _)) (pss_one (ps_ret pe_bl)) pss_nil)
      (pss_cons (ps_if (pt_cmpR (r := rNeD K) (op_neD hr.units) (pe_cX c_turned hr (by decide) (by rfl) takesN (pa_cons (pv 0) pa_nil)) (pe_lst (pa_cons pe_int (pa_cons pe_int pa_nil))) (nomark _)) (pss_one (ps_ret pe_bl)) pss_nil)
      (pss_cons (ps_if (pt_not (pt_val (pe_callB (r := rIsi K) call_isi (by rfl) T.b_isinstance (by decide +kernel) (pa_cons (pv 2) (pa_cons (pe_glob (v := .ref R) (by rfl) D.gR rfl) pa_nil))))) (pss_one (ps_ret pe_bl)) pss_nil)
      (pss_cons (ps_if (pt_cmpR op_ne (pe_fld (pv 2) rfl) pe_str (nomark _)) (pss_one (ps_ret pe_bl)) pss_nil)
      (pss_cons (ps_if (pt_val (pe_alt (pe_mt t_Round_shows hr (by decide) (pv 1) (pa_cons (pv 0) pa_nil)) (pe_mt t_Straight_shows hr (by decide) (pv 1) (pa_cons (pv 0) pa_nil)))) (pss_one (ps_ret pe_bl)) pss_nil)
      (pss_cons (ps_asg pe_int (pg_sub (pv 0) pe_int set_list))
      (pss_cons (ps_if (pt_cmpR op_ne (pe_cX c_length hr (by decide) (by rfl) takesN (pa_cons (pv 0) pa_nil)) pe_int (nomark _)) (pss_one (ps_ret pe_bl)) pss_nil)
      (pss_cons (ps_if (pt_cmpR (r := rNeD K) (op_neD hr.units) (pe_cX c_turned hr (by decide) (by rfl) takesN (pa_cons (pv 0) pa_nil)) (pe_lst (pa_cons pe_int (pa_cons pe_int pa_nil))) (nomark _)) (pss_one (ps_ret pe_bl)) pss_nil)
      (pss_cons (ps_if (pt_cmpR op_isnot_bl (pe_alt (pe_mt t_Round_shows hr (by decide) (pv 1) (pa_cons (pv 0) pa_nil)) (pe_mt t_Straight_shows hr (by decide) (pv 1) (pa_cons (pv 0) pa_nil))) pe_bl (nomark _)) (pss_one (ps_ret pe_bl)) pss_nil)
      (pss_cons (ps_if (pt_cmpR op_isnot_bl (pe_alt (pe_mt t_Round_shows hr (by decide) (pv 2) (pa_cons (pv 0) pa_nil)) (pe_mt t_Straight_shows hr (by decide) (pv 2) (pa_cons (pv 0) pa_nil))) pe_bl (nomark _)) (pss_one (ps_ret pe_bl)) pss_nil)
      (pss_one (ps_ret (pe_c c__law_told_right hr (by decide) (by rfl) (pa_cons (pv 0) (pa_cons (pv 1) pa_nil))))))))))))))))))))))), ?_⟩
    refine q_asgL (xs := LI [3, 1]) (el_lst (ea_cons ev_c (ea_cons ev_c ea_nil)) (by decide)) fun a H1 ha0 e1 a1 => ?_
    refine q_asgP (to_T (R := R) (S := S) hs31 (ep_ev (ev_var rfl) fun H2 e2 => ⟨a, rfl, e2 a _ a1⟩)) fun v H2 e2 hv => ?_
    rw [told_some mk31] at hv
    obtain ⟨p, dx, rfl, p2⟩ := hv
    have E2 : Ex H H2 := e1.trans e2
    have a2 := e2 a _ a1
    refine q_when (b := false) (et_is (et_test (ev_neS (ev_i (ln_V hs31 (ep_ev (ev_var rfl) fun H0 e0 => ⟨a, rfl, e0 a _ a2⟩)) (show ((pr [3, 1] : Nat) : Int) = 3 by rw [show pr [3, 1] = 3 by decide +kernel]; rfl)) ev_c rfl)) rfl) (fun h => nomatch h) fun _ H3 e3 => ?_
    have E3 : Ex H H3 := E2.trans e3
    have a3 := e3 a _ a2
    have p3 := e3 p _ p2
    refine q_when (b := false) (et_not (et_B (b := true) (ev_isiO (ev_var rfl) ev_c (ty_ins D.tR p3) D.kRR))) (fun h => nomatch h) fun _ H4 e4 => ?_
    have E4 : Ex H H4 := E3.trans e4
    have a4 := e4 a _ a3
    have p4 := e4 p _ p3
    refine q_when (b := false) (et_is (et_test (ev_neI (a := cl (turn [3, 1])) (b := [2, 2]) (il_p (tu_N hs31 (ep_ev (ev_var rfl) fun H0 e0 => ⟨a, rfl, e0 a _ a4⟩))) (il_n (el_lst (ea_cons ev_c (ea_cons ev_c ea_nil)) (by decide))))) (by decide +kernel)) (fun h => nomatch h) fun _ H5 e5 => ?_
    have E5 : Ex H H5 := E4.trans e5
    have a5 := e5 a _ a4
    have p5 := e5 p _ p4
    refine q_when (b := false) (et_is (et_test (ev_isnotB (sh_V (b := true) (i := 1) (j := 0) rfl rfl p5 a5 hs31 (by decide +kernel)) ev_c)) rfl) (fun h => nomatch h) fun _ H6 e6 => ?_
    have E6 : Ex H H6 := E5.trans e6
    have a6 := e6 a _ a5
    have p6 := e6 p _ p5
    refine q_setL (j := 0) a6 ev_c (ev_var rfl) ev_c (by decide) fun H7 e7 => ?_
    have E7 : Ex H H7 := E6.trans e7
    have a7 := e7 a _ a6
    have p7 := e7 p _ p6
    have np8 : p ≠ a := fun z => by rw [z, a7] at p7; cases p7
    have E8 : Ex H (upd H7 a (.lst ((LI [3, 1]).set 0 (.int 2)))) := Ex.mut E7 ha0
    have a8 : (upd H7 a (.lst ((LI [3, 1]).set 0 (.int 2)))) a = some (.lst (LI [2, 1])) := upd_same
    have p8 : (upd H7 a (.lst ((LI [3, 1]).set 0 (.int 2)))) p = _ := (upd_ne np8).trans p7
    generalize upd H7 a (.lst ((LI [3, 1]).set 0 (.int 2))) = H8 at E8 a8 p8
    refine q_asgP (to_T (R := R) (S := S) hs21 (ep_ev (ev_var rfl) fun H0 e0 => ⟨a, rfl, e0 a _ a8⟩)) fun v2 H9 e9 hv2 => ?_
    rw [told_some mk21] at hv2
    obtain ⟨u, dx2, rfl, s9⟩ := hv2
    have E9 : Ex H H9 := E8.trans e9
    have a9 := e9 a _ a8
    have p9 := e9 p _ p8
    refine q_when (b := false) (et_is (et_test (ev_neS (ev_i (ln_V hs21 (ep_ev (ev_var rfl) fun H0 e0 => ⟨a, rfl, e0 a _ a9⟩)) (show ((pr [2, 1] : Nat) : Int) = 1 by rw [show pr [2, 1] = 1 by decide +kernel]; rfl)) ev_c rfl)) rfl) (fun h => nomatch h) fun _ H10 e10 => ?_
    have E10 : Ex H H10 := E9.trans e10
    have a10 := e10 a _ a9
    have p10 := e10 p _ p9
    have s10 := e10 u _ s9
    refine q_when (b := false) (et_is (et_test (ev_neI (a := cl (turn [2, 1])) (b := [2, 1]) (il_p (tu_N hs21 (ep_ev (ev_var rfl) fun H0 e0 => ⟨a, rfl, e0 a _ a10⟩))) (il_n (el_lst (ea_cons ev_c (ea_cons ev_c ea_nil)) (by decide))))) (by decide +kernel)) (fun h => nomatch h) fun _ H11 e11 => ?_
    have E11 : Ex H H11 := E10.trans e11
    have a11 := e11 a _ a10
    have p11 := e11 p _ p10
    have s11 := e11 u _ s10
    refine q_when (b := false) (et_not (et_B (b := true) (ev_isiO (ev_var rfl) ev_c (ty_ins D.tR s11) D.kRR))) (fun h => nomatch h) fun _ H12 e12 => ?_
    have E12 : Ex H H12 := E11.trans e12
    have a12 := e12 a _ a11
    have p12 := e12 p _ p11
    have s12 := e12 u _ s11
    refine q_when (b := false) (et_is (et_test (ev_neS (ev_fld (ev_var rfl) s12 C.clR C.nRm (rF_marks _ _)) ev_c rfl)) (by decide +kernel)) (fun h => nomatch h) fun _ H13 e13 => ?_
    have E13 : Ex H H13 := E12.trans e13
    have a13 := e13 a _ a12
    have p13 := e13 p _ p12
    have s13 := e13 u _ s12
    refine q_when (b := false) (et_B (sh_V (b := false) (i := 1) (j := 0) rfl rfl p13 a13 hs21 (by decide +kernel))) (fun h => nomatch h) fun _ H14 e14 => ?_
    have E14 : Ex H H14 := E13.trans e14
    have a14 := e14 a _ a13
    have p14 := e14 p _ p13
    have s14 := e14 u _ s13
    refine q_setL (j := 0) a14 ev_c (ev_var rfl) ev_c (by decide) fun H15 e15 => ?_
    have E15 : Ex H H15 := E14.trans e15
    have a15 := e15 a _ a14
    have p15 := e15 p _ p14
    have s15 := e15 u _ s14
    have np16 : p ≠ a := fun z => by rw [z, a15] at p15; cases p15
    have ns16 : u ≠ a := fun z => by rw [z, a15] at s15; cases s15
    have E16 : Ex H (upd H15 a (.lst ((LI [2, 1]).set 0 (.int 3)))) := Ex.mut E15 ha0
    have a16 : (upd H15 a (.lst ((LI [2, 1]).set 0 (.int 3)))) a = some (.lst (LI [3, 1])) := upd_same
    have p16 : (upd H15 a (.lst ((LI [2, 1]).set 0 (.int 3)))) p = _ := (upd_ne np16).trans p15
    have s16 : (upd H15 a (.lst ((LI [2, 1]).set 0 (.int 3)))) u = _ := (upd_ne ns16).trans s15
    generalize upd H15 a (.lst ((LI [2, 1]).set 0 (.int 3))) = H16 at E16 a16 p16 s16
    refine q_when (b := false) (et_is (et_test (ev_neS (ev_i (ln_V hs31 (ep_ev (ev_var rfl) fun H0 e0 => ⟨a, rfl, e0 a _ a16⟩)) (show ((pr [3, 1] : Nat) : Int) = 3 by rw [show pr [3, 1] = 3 by decide +kernel]; rfl)) ev_c rfl)) rfl) (fun h => nomatch h) fun _ H17 e17 => ?_
    have E17 : Ex H H17 := E16.trans e17
    have a17 := e17 a _ a16
    have p17 := e17 p _ p16
    have s17 := e17 u _ s16
    refine q_when (b := false) (et_is (et_test (ev_neI (a := cl (turn [3, 1])) (b := [2, 2]) (il_p (tu_N hs31 (ep_ev (ev_var rfl) fun H0 e0 => ⟨a, rfl, e0 a _ a17⟩))) (il_n (el_lst (ea_cons ev_c (ea_cons ev_c ea_nil)) (by decide))))) (by decide +kernel)) (fun h => nomatch h) fun _ H18 e18 => ?_
    have E18 : Ex H H18 := E17.trans e18
    have a18 := e18 a _ a17
    have p18 := e18 p _ p17
    have s18 := e18 u _ s17
    refine q_when (b := false) (et_is (et_test (ev_isnotB (sh_V (b := true) (i := 1) (j := 0) rfl rfl p18 a18 hs31 (by decide +kernel)) ev_c)) rfl) (fun h => nomatch h) fun _ H19 e19 => ?_
    have E19 : Ex H H19 := E18.trans e19
    have a19 := e19 a _ a18
    have p19 := e19 p _ p18
    have s19 := e19 u _ s18
    refine q_when (b := false) (et_is (et_test (ev_isnotB (sh_V (b := false) (i := 2) (j := 0) rfl rfl s19 a19 hs31 (by decide +kernel)) ev_c)) rfl) (fun h => nomatch h) fun _ H20 e20 => ?_
    have E20 : Ex H H20 := E19.trans e20
    have a20 := e20 a _ a19
    have p20 := e20 p _ p19
    have s20 := e20 u _ s19
    exact s_ret (v := .bl true) (ev_call (ea_cons (ev_var rfl) (ea_cons (ev_var rfl) ea_nil)) fun H0 e0 Q' q' _ => ⟨a, p, dx, _, _, rfl, e0 a _ a20, e0 p _ p20, ok_mk _, q'⟩) fun H0 e0 => q H0 (E20.trans e0)
end
end Cw
namespace Cw
open PySem PySem.Spec PyProof.Rows L2 Evl Ch
local macro_rules | `(tactic| walk_at "cond") => `(tactic| first | omega | decide | (show _ ∧ _; constructor <;> first | omega | decide) | (show _ ∨ _; first | (left; constructor <;> omega) | (right; constructor <;> omega)) | (show _ ∧ _ ∧ _; refine ⟨?_, ?_, ?_⟩ <;> first | omega | decide))
local macro_rules | `(tactic| walk_at "ev") => `(tactic| first | ((with_reducible apply ev_var); rfl) | (with_reducible exact ev_c) | ((with_reducible apply ev_opI0) <;> walk_at "ev") | ((with_reducible apply ev_opI); walk_at "ev"; walk_at "ev"; walk_at "cond") | ((with_reducible apply ev_eqS); walk_at "ev"; walk_at "ev"; rfl) | ((with_reducible apply ev_neS); walk_at "ev"; walk_at "ev"; rfl) | ((with_reducible apply ev_isi); walk_at "ev"; walk_at "ev"; (first | exact ty_int | exact ty_bl | exact ty_str | exact ty_lst (by assumption)); (first | exact kit_ty (r := true) (by decide +kernel) | exact kit_ty (r := false) (by decide +kernel))) | ((with_reducible apply ev_notV); walk_at "ev") | ((with_reducible apply ev_sum); walk_at "ev"; exact sq_of (by assumption)) | (apply ev_len; walk_at "ev"; exact sq_of (by assumption)))
local macro_rules | `(tactic| walk_at "et") => `(tactic| first | ((with_reducible apply et_test); walk_at "ev") | ((with_reducible apply et_B); walk_at "ev") | ((with_reducible apply et_not); walk_at "et"))
section
variable {P : Program} {w : World} {K : PySem.W.Frag} {mg : Str → Option Value} {base : Heap}
/-- a row: an answer, heaps, and whether it shows them -/
def isHd (R S : Addr) : V → Hp → Prop := fun v H => ∃ (t p a : Addr) (ns : List Nat) (b : Bool), v = .ref t ∧ H t = some (.tup [.ref p, .ref a, .bl b]) ∧ H a = some (.lst (LI ns)) ∧ Hs ns ∧ ((∃ dx s m, H p = some (.ins R dx (rF (.int s) (.str m))) ∧ shR s m ns = b) ∨ (∃ dx t, H p = some (.ins S dx (sF (.int t))) ∧ shS t ns = b))
theorem mo_hd {R S : Addr} : Mo (isHd R S) := fun _ _ _ e ⟨t, p, a, ns, b, h1, h2, h3, hs, h⟩ => ⟨t, p, a, ns, b, h1, e t _ h2, e a _ h3, hs, h.elim (fun ⟨dx, s, m, h4, h5⟩ => .inl ⟨dx, s, m, e p _ h4, h5⟩) fun ⟨dx, t, h4, h5⟩ => .inr ⟨dx, t, e p _ h4, h5⟩⟩
section
variable {σ : L2.St} {H : Hp} {ta tb tl tc : TE} {R S : Addr}
theorem mo3 {P1 P2 P3 : V → Hp → Prop} (h1 : Mo P1) (h2 : Mo P2) (h3 : Mo P3) : ∀ P ∈ [P1, P2, P3], Mo P := fun P hP => by
  simp only [List.mem_cons, List.not_mem_nil, or_false] at hP
  rcases hP with rfl | rfl | rfl
  · exact h1
  · exact h2
  · exact h3
theorem hd_S (t : Int) (ns : List Nat) (b : Bool) (ht : Ev ta σ H (.int t)) (hl : EvL tl σ H (LI ns)) (hs : Hs ns) (hb : shS t ns = b) : EvP (tTup (tCons (tMake S (spInit S 1 sfs) [] E0 (tCons ta tNil)) (tCons tl (tCons (tC (.bl b)) tNil)))) σ H (isHd R S) :=
  (ep_tup (ap_cons mo_ins (ep_make (vs := [.int t]) (ea_cons ht ea_nil) rfl) (ap_cons mo_n (ep_n hl) (ap_cons (P := isV (.bl b)) mo_v (ep_v ev_c) ap_nil))) (mo3 mo_ins mo_n mo_v) (show 3 ≤ 100000 by decide)).imp fun v H2 e2 hv => by
    obtain ⟨tp, xs, rfl, hx, ps⟩ := hv
    obtain ⟨u1, u2, u3, rfl, ⟨p, dx, rfl, hp⟩, ⟨a, rfl, ha⟩, rfl⟩ := allP_three ps
    exact ⟨tp, p, a, ns, b, rfl, hx, ha, hs, .inr ⟨dx, t, hp, hb⟩⟩
theorem hd_R (s : Int) (m : Str) (ns : List Nat) (b : Bool) (ht : Ev ta σ H (.int s)) (hm : Ev tb σ H (.str m)) (hl : EvL tl σ H (LI ns)) (hs : Hs ns) (hb : shR s m ns = b) : EvP (tTup (tCons (tMake R (spInit R 2 rfs) [] E0 (tCons ta (tCons tb tNil))) (tCons tl (tCons (tC (.bl b)) tNil)))) σ H (isHd R S) :=
  (ep_tup (ap_cons mo_ins (ep_make (vs := [.int s, .str m]) (ea_cons ht (ea_cons hm ea_nil)) rfl) (ap_cons mo_n (ep_n hl) (ap_cons (P := isV (.bl b)) mo_v (ep_v ev_c) ap_nil))) (mo3 mo_ins mo_n mo_v) (show 3 ≤ 100000 by decide)).imp fun v H2 e2 hv => by
    obtain ⟨tp, xs, rfl, hx, ps⟩ := hv
    obtain ⟨u1, u2, u3, rfl, ⟨p, dx, rfl, hp⟩, ⟨a, rfl, ha⟩, rfl⟩ := allP_three ps
    exact ⟨tp, p, a, ns, b, rfl, hx, ha, hs, .inl ⟨dx, s, m, hp, hb⟩⟩
end
def rnV : V → V
  | .int i => .int ((rn i.toNat : Nat) : Int)
  | v => v
def sp_hand : Sp := fun vs H Q _ => vs = [] ∧ RetV (.bl true) H Q
theorem spv_hand {H : Hp} : SpV sp_hand [] H (.bl true) := fun H1 e Q q E => ⟨rfl, q⟩
section
variable {σ : L2.St} {H : Hp} {tl te : TE}
theorem el_lcU {xs : List V} {j : Nat} {vs : List Nat} (g : V → V) (h : EvU tl σ H xs) (hz : xs.length ≤ 1000) (hw : ∀ x, wipe ((wipe σ vs).set j (some x)) vs = wipe σ vs) (he : ∀ x ∈ xs, ∀ H1, Ex H H1 → Ev te ((wipe σ vs).set j (some x)) H1 (g x)) : EvL (tLc (iTup K tl) (gName j) tYes te vs) σ H (xs.map g) := fun H0 e Q q =>
  h H0 e _ fun a H1 ha e1 h1 => ⟨a, rfl, ⟨xs, st_of h1⟩, fun Dl hD => by
    refine lc_tup (xs := xs) (fun i H' => Ex H1 H' ∧ H' Dl = some (.lst ((xs.take i).map g))) ⟨Ex.new hD, upd_same⟩ (fun i H' _ p => st_of (p.1 a _ h1)) (fun i x H' hi p => ⟨hw x, ?_⟩) fun H' p => q Dl H' (fresh_back e1 hD) (e1.trans p.1) (by rw [p.2, List.take_length])
    have hil := (List.getElem?_eq_some_iff.mp hi).1
    refine he x (List.mem_of_getElem? hi) H' ((e.trans e1).trans p.1) H' (Ex.refl H') _ fun H2 e2 => ⟨_, e2 Dl _ p.2, sz_lt (by rw [List.length_map, List.length_take]; omega), Ex.mut (p.1.trans e2) hD, ?_⟩
    rw [upd_same, List.take_add_one, hi, List.map_append]
    rfl⟩
end
theorem ok__law_hand_right {f : Addr} {fd : FuncData} {AA R S BC : Addr} (T : Tx mg) (C : Clx K R S) (D : Cly K mg AA R S) (F : Fun K "_law_hand_right" "_law_hand_right" s__law_hand_right f fd) (m_Round : CMk P w K mg base 1 "Round" R (spInit R 2 rfs)) (m_Straight : CMk P w K mg base 1 "Straight" S (spInit S 1 sfs)) (t_Round_shows : CMt P w K mg base 3 R "shows" (sp_Round_shows R)) (t_Straight_shows : CMt P w K mg base 4 S "shows" (sp_Straight_shows S)) (c_rounds : CalX P w K mg base 2 "rounds" (sp_rounds BC)) : FnOk P w K mg base CX0 5 f fd [] sp_hand := by
  refine F.ok sc__law_hand_right (fun vs H Q E h => ?_) (fun cdv A outer s H vs Q E hr h => ?_)
  · rw [h.1]
    rfl
  · obtain ⟨rfl, q⟩ := h
    refine ⟨_, (pss_cons (ps_set (i := 0) sc__law_hand_right.nd rfl (Or.inl rfl) (pe_lst (pa_cons (pe_tup (pa_cons (pe_mk m_Round hr (by decide) (by rfl) (pa_cons pe_int (pa_cons pe_str pa_nil))) (pa_cons (pe_lst (pa_cons pe_int (pa_cons pe_int pa_nil))) (pa_cons pe_bl pa_nil)))) (pa_cons (pe_tup (pa_cons (pe_mk m_Round hr (by decide) (by rfl) (pa_cons pe_int (pa_cons pe_str pa_nil))) (pa_cons (pe_lst (pa_cons pe_int (pa_cons pe_int pa_nil))) (pa_cons pe_bl pa_nil)))) pa_nil))))
      (pss_cons (ps_set (i := 0) sc__law_hand_right.nd rfl (Or.inl rfl) (pe_op op_cat (pv 0) (pe_lst (pa_cons (pe_tup (pa_cons (pe_mk m_Round hr (by decide) (by rfl) (pa_cons pe_int (pa_cons pe_str pa_nil))) (pa_cons (pe_lst (pa_cons pe_int (pa_cons pe_int pa_nil))) (pa_cons pe_bl pa_nil)))) pa_nil))))
      (pss_cons (ps_set (i := 0) sc__law_hand_right.nd rfl (Or.inl rfl) (pe_op op_cat (pv 0) (pe_lst (pa_cons (pe_tup (pa_cons (pe_mk m_Round hr (by decide) (by rfl) (pa_cons pe_int (pa_cons pe_str pa_nil))) (pa_cons (pe_lst (pa_cons pe_int pa_nil)) (pa_cons pe_bl pa_nil)))) (pa_cons (pe_tup (pa_cons (pe_mk m_Round hr (by decide) (by rfl) (pa_cons (pe_op op_pow pe_int pe_int) (pa_cons pe_str pa_nil))) (pa_cons (pe_lst (pa_cons pe_int pa_nil)) (pa_cons pe_bl pa_nil)))) pa_nil)))))
      (pss_cons (ps_set (i := 0) sc__law_hand_right.nd rfl (Or.inl rfl) (pe_op op_cat (pv 0) (pe_lst (pa_cons (pe_tup (pa_cons (pe_mk m_Round hr (by decide) (by rfl) (pa_cons (pe_un un_neg (pe_op op_pow pe_int pe_int)) (pa_cons pe_str pa_nil))) (pa_cons (pe_lst pa_nil) (pa_cons pe_bl pa_nil)))) pa_nil))))
      (pss_cons (ps_set (i := 0) sc__law_hand_right.nd rfl (Or.inl rfl) (pe_op op_cat (pv 0) (pe_lst (pa_cons (pe_tup (pa_cons (pe_mk m_Round hr (by decide) (by rfl) (pa_cons pe_int (pa_cons pe_str pa_nil))) (pa_cons (pe_lst pa_nil) (pa_cons pe_bl pa_nil)))) (pa_cons (pe_tup (pa_cons (pe_mk m_Round hr (by decide) (by rfl) (pa_cons pe_int (pa_cons pe_str pa_nil))) (pa_cons (pe_lst pa_nil) (pa_cons pe_bl pa_nil)))) pa_nil)))))
      (pss_cons (ps_set (i := 0) sc__law_hand_right.nd rfl (Or.inl rfl) (pe_op op_cat (pv 0) (pe_lst (pa_cons (pe_tup (pa_cons (pe_mk m_Straight hr (by decide) (by rfl) (pa_cons (pe_op op_pow pe_int pe_int) pa_nil)) (pa_cons (pe_lst (pa_cons pe_int (pa_cons pe_int (pa_cons pe_int pa_nil)))) (pa_cons pe_bl pa_nil)))) pa_nil))))
      (pss_cons (ps_set (i := 0) sc__law_hand_right.nd rfl (Or.inl rfl) (pe_op op_cat (pv 0) (pe_lst (pa_cons (pe_tup (pa_cons (pe_mk m_Straight hr (by decide) (by rfl) (pa_cons pe_int pa_nil)) (pa_cons (pe_lst (pa_cons pe_int (pa_cons pe_int (pa_cons pe_int pa_nil)))) (pa_cons pe_bl pa_nil)))) (pa_cons (pe_tup (pa_cons (pe_mk m_Straight hr (by decide) (by rfl) (pa_cons pe_int pa_nil)) (pa_cons (pe_lst (pa_cons pe_int (pa_cons pe_int (pa_cons pe_int pa_nil)))) (pa_cons pe_bl pa_nil)))) pa_nil)))))
      (pss_cons (ps_set (i := 0) sc__law_hand_right.nd rfl (Or.inl rfl) (pe_op op_cat (pv 0) (pe_lst (pa_cons (pe_tup (pa_cons (pe_mk m_Straight hr (by decide) (by rfl) (pa_cons pe_int pa_nil)) (pa_cons (pe_lst (pa_cons pe_int (pa_cons pe_int (pa_cons pe_int pa_nil)))) (pa_cons pe_bl pa_nil)))) pa_nil))))
      (pss_cons (ps_set (i := 0) sc__law_hand_right.nd rfl (Or.inl rfl) (pe_op op_cat (pv 0) (pe_lst (pa_cons (pe_tup (pa_cons (pe_mk m_Straight hr (by decide) (by rfl) (pa_cons pe_int pa_nil)) (pa_cons (pe_lst (pa_cons pe_int (pa_cons pe_int pa_nil))) (pa_cons pe_bl pa_nil)))) (pa_cons (pe_tup (pa_cons (pe_mk m_Round hr (by decide) (by rfl) (pa_cons pe_int (pa_cons pe_str pa_nil))) (pa_cons (pe_lst (pa_cons pe_int (pa_cons pe_int pa_nil))) (pa_cons pe_bl pa_nil)))) pa_nil)))))
      (pss_cons (ps_set (i := 0) sc__law_hand_right.nd rfl (Or.inl rfl) (pe_op op_cat (pv 0) (pe_lst (pa_cons (pe_tup (pa_cons (pe_mk m_Round hr (by decide) (by rfl) (pa_cons pe_int (pa_cons pe_str pa_nil))) (pa_cons (pe_lst (pa_cons pe_int (pa_cons pe_int pa_nil))) (pa_cons pe_bl pa_nil)))) pa_nil))))
      (pss_cons (ps_for PassesOwn.never rfl (pi_list (pv 0)) (pg_tup rfl (pgs_cons (pg_name (i := 1) sc__law_hand_right.nd rfl (Or.inl rfl)) (pgs_cons (pg_name (i := 2) sc__law_hand_right.nd rfl (Or.inl rfl)) (pgs_cons (pg_name (i := 3) sc__law_hand_right.nd rfl (Or.inl rfl)) pgs_nil)))) (pss_one (ps_if (pt_cmpR op_ne (pe_alt (pe_mt t_Round_shows hr (by decide) (pv 1) (pa_cons (pv 2) pa_nil)) (pe_mt t_Straight_shows hr (by decide) (pv 1) (pa_cons (pv 2) pa_nil))) (pv 3) (nomark _)) (pss_one (ps_ret pe_bl)) pss_nil)))
      (pss_one (ps_ret (pe_cmpR (r := rEqD K) (op_eqD hr.units) (pe_lc (own := [("_law_cards", 4)]) (by rfl) sc__law_hand_right.nd (pi_tup (pe_tup (pa_cons pe_int (pa_cons pe_int (pa_cons pe_int (pa_cons pe_int (pa_cons pe_int pa_nil))))))) (blkOk_by (N := N__law_hand_right) (sc := defScope s__law_hand_right) (by decide +kernel)) (fun _ _ _ _ _ => (pg_name (i := 4) sc__law_hand_right.nd rfl (Or.inl rfl))) (fun _ _ _ _ _ => pts_nil) (fun _ _ _ _ _ => (pe_cX c_rounds hr (by decide) (by rfl) takesN (pa_cons (pv 4) pa_nil)))) (pe_lst (pa_cons pe_int (pa_cons pe_int (pa_cons pe_int (pa_cons pe_int (pa_cons pe_int pa_nil)))))) (nomark _))))))))))))))), ?_⟩
    refine q_asgP (ep_allN 2 (mo_hd (R := R) (S := S)) (ap_cons mo_hd (hd_R (2) "-x-\n" [2, 2] false ev_c ev_c (el_lst (ea_cons ev_c (ea_cons ev_c ea_nil)) (by decide)) ⟨by decide, by decide, by decide⟩ (by decide +kernel))
      (ap_cons mo_hd (hd_R (2) "-x-" [2, 2] true ev_c ev_c (el_lst (ea_cons ev_c (ea_cons ev_c ea_nil)) (by decide)) ⟨by decide, by decide, by decide⟩ (by decide +kernel))
      ap_nil)) (by decide)) fun v1 H1 e1 hv1 => ?_
    refine q_asgP (ep_catAllN (n := 1) mo_hd (ep_allVar mo_hd (ev_var rfl) hv1) (ep_allN 1 mo_hd (ap_cons mo_hd (hd_R (3) "-x-\n" [2, 2] false ev_c ev_c (el_lst (ea_cons ev_c (ea_cons ev_c ea_nil)) (by decide)) ⟨by decide, by decide, by decide⟩ (by decide +kernel))
      ap_nil) (by decide)) (by decide)) fun v2 H2 e2 hv2 => ?_
    refine q_asgP (ep_catAllN (n := 2) mo_hd (ep_allVar mo_hd (ev_var rfl) hv2) (ep_allN 2 mo_hd (ap_cons mo_hd (hd_R (1) "-X" [1] false ev_c ev_c (el_lst (ea_cons ev_c ea_nil) (by decide)) ⟨by decide, by decide, by decide⟩ (by decide +kernel))
      (ap_cons mo_hd (hd_R (100000000000000000000000000000000000000000000000000) "-" [1] false (ev_opI (C := CPow) (g := fun i j => .int (i ^ j.toNat)) ev_c ev_c ⟨by decide, by decide, by decide⟩) ev_c (el_lst (ea_cons ev_c ea_nil) (by decide)) ⟨by decide, by decide, by decide⟩ (by decide +kernel))
      ap_nil)) (by decide)) (by decide)) fun v3 H3 e3 hv3 => ?_
    refine q_asgP (ep_catAllN (n := 1) mo_hd (ep_allVar mo_hd (ev_var rfl) hv3) (ep_allN 1 mo_hd (ap_cons mo_hd (hd_R (-100000000000000000000000000000000000000000000000000) "" [] false (ev_neg (ev_opI (C := CPow) (g := fun i j => .int (i ^ j.toNat)) ev_c ev_c ⟨by decide, by decide, by decide⟩)) ev_c (el_lst ea_nil (by decide)) ⟨by decide, by decide, by decide⟩ (by decide +kernel))
      ap_nil) (by decide)) (by decide)) fun v4 H4 e4 hv4 => ?_
    refine q_asgP (ep_catAllN (n := 2) mo_hd (ep_allVar mo_hd (ev_var rfl) hv4) (ep_allN 2 mo_hd (ap_cons mo_hd (hd_R (0) "" [] false ev_c ev_c (el_lst ea_nil (by decide)) ⟨by decide, by decide, by decide⟩ (by decide +kernel))
      (ap_cons mo_hd (hd_R (0) "-" [] true ev_c ev_c (el_lst ea_nil (by decide)) ⟨by decide, by decide, by decide⟩ (by decide +kernel))
      ap_nil)) (by decide)) (by decide)) fun v5 H5 e5 hv5 => ?_
    refine q_asgP (ep_catAllN (n := 1) mo_hd (ep_allVar mo_hd (ev_var rfl) hv5) (ep_allN 1 mo_hd (ap_cons mo_hd (hd_S (100000000000000000000000000000000000000000000000000) [1, 1, 1] false (ev_opI (C := CPow) (g := fun i j => .int (i ^ j.toNat)) ev_c ev_c ⟨by decide, by decide, by decide⟩) (el_lst (ea_cons ev_c (ea_cons ev_c (ea_cons ev_c ea_nil))) (by decide)) ⟨by decide, by decide, by decide⟩ (by decide +kernel))
      ap_nil) (by decide)) (by decide)) fun v6 H6 e6 hv6 => ?_
    refine q_asgP (ep_catAllN (n := 2) mo_hd (ep_allVar mo_hd (ev_var rfl) hv6) (ep_allN 2 mo_hd (ap_cons mo_hd (hd_S (2) [1, 1, 1] true ev_c (el_lst (ea_cons ev_c (ea_cons ev_c (ea_cons ev_c ea_nil))) (by decide)) ⟨by decide, by decide, by decide⟩ (by decide +kernel))
      (ap_cons mo_hd (hd_S (1) [1, 1, 1] false ev_c (el_lst (ea_cons ev_c (ea_cons ev_c (ea_cons ev_c ea_nil))) (by decide)) ⟨by decide, by decide, by decide⟩ (by decide +kernel))
      ap_nil)) (by decide)) (by decide)) fun v7 H7 e7 hv7 => ?_
    refine q_asgP (ep_catAllN (n := 1) mo_hd (ep_allVar mo_hd (ev_var rfl) hv7) (ep_allN 1 mo_hd (ap_cons mo_hd (hd_S (3) [1, 1, 1] false ev_c (el_lst (ea_cons ev_c (ea_cons ev_c (ea_cons ev_c ea_nil))) (by decide)) ⟨by decide, by decide, by decide⟩ (by decide +kernel))
      ap_nil) (by decide)) (by decide)) fun v8 H8 e8 hv8 => ?_
    refine q_asgP (ep_catAllN (n := 2) mo_hd (ep_allVar mo_hd (ev_var rfl) hv8) (ep_allN 2 mo_hd (ap_cons mo_hd (hd_S (0) [2, 1] false ev_c (el_lst (ea_cons ev_c (ea_cons ev_c ea_nil)) (by decide)) ⟨by decide, by decide, by decide⟩ (by decide +kernel))
      (ap_cons mo_hd (hd_R (2) "---" [2, 1] true ev_c ev_c (el_lst (ea_cons ev_c (ea_cons ev_c ea_nil)) (by decide)) ⟨by decide, by decide, by decide⟩ (by decide +kernel))
      ap_nil)) (by decide)) (by decide)) fun v9 H9 e9 hv9 => ?_
    refine q_asgP (ep_catAllN (n := 1) mo_hd (ep_allVar mo_hd (ev_var rfl) hv9) (ep_allN 1 mo_hd (ap_cons mo_hd (hd_R (1) "xx" [2, 1] false ev_c ev_c (el_lst (ea_cons ev_c (ea_cons ev_c ea_nil)) (by decide)) ⟨by decide, by decide, by decide⟩ (by decide +kernel))
      ap_nil) (by decide)) (by decide)) fun v10 H10 e10 hv10 => ?_
    obtain ⟨p0, xs, rfl, hp0, hlen, hA⟩ := hv10
    have eA : Ex H H10 := (((((((((e1.trans e2).trans e3).trans e4).trans e5).trans e6).trans e7).trans e8).trans e9).trans e10)
    clear hlen
    refine q_forL (ev_var rfl) (sq_of hp0) (fun i σ' H' => ∃ x1 x2 x3, σ' = [some (.ref p0), x1, x2, x3, none] ∧ Ex H10 H') (fun H2 e2 => ⟨none, none, none, rfl, e2⟩) (fun i σ' H' hi hv => ?_) (fun i x σ' H' hx hv => ?_) (fun σ' H' hv => ?_)
    · obtain ⟨_, _, _, _, e⟩ := hv
      exact sq_of (e p0 _ hp0)
    · obtain ⟨x1, x2, x3, rfl, e⟩ := hv
      obtain ⟨t, p, a, ns, b, rfl, ht, ha, hs, h⟩ := mo_hd _ _ _ e (hA x (List.mem_of_getElem? hx))
      refine ⟨t, _, rfl, st_of ht, rfl, _, _, rfl, _, _, rfl, _, _, rfl, rfl, ?_⟩
      refine s_when (b := false) ?_ (fun h => nomatch h) fun _ H2 e2 => ⟨_, _, _, rfl, e.trans e2⟩
      rcases h with ⟨dx, sx, m, hp, hb⟩ | ⟨dx, t, hp, hb⟩
      · exact et_is (et_test (ev_neS (ev_bl (ev_altL (ev_meth (ev_var rfl) hp (rF_no _ _ (by decide +kernel) (by decide +kernel)) (ea_cons (ev_var rfl) ea_nil) (spv_Round_shows hp ha hs))) hb) (ev_var rfl) rfl)) (by rw [decide_eq_true rfl]; rfl)
      · exact et_is (et_test (ev_neS (ev_bl (ev_altR (ev_meth (ev_var rfl) hp (sF_no _ (by decide +kernel)) (ea_cons (ev_var rfl) ea_nil) (spv_Straight_shows hp ha hs))) hb) (ev_var rfl) rfl)) (by rw [decide_eq_true rfl]; rfl)
    · obtain ⟨x1, x2, x3, rfl, e⟩ := hv
      have hg : ∀ x ∈ [V.int 99679, .int 99680, .int 99681, .int 99682, .int 99683], ∃ n : Nat, x = .int (n : Int) ∧ n ≤ 100000 := fun x hx => by
        simp only [List.mem_cons, List.not_mem_nil, or_false] at hx
        rcases hx with rfl | rfl | rfl | rfl | rfl
        · exact ⟨99679, rfl, by decide⟩
        · exact ⟨99680, rfl, by decide⟩
        · exact ⟨99681, rfl, by decide⟩
        · exact ⟨99682, rfl, by decide⟩
        · exact ⟨99683, rfl, by decide⟩
      have hv : ([V.int 99679, .int 99680, .int 99681, .int 99682, .int 99683].map rnV) = [223, 1, 1, 1, 223].map V.int := by decide +kernel
      refine s_ret (v := .bl true) (ev_bl (ev_eqI (a := [223, 1, 1, 1, 223]) (b := [223, 1, 1, 1, 223]) (il_n (el_is (el_lcU (xs := [V.int 99679, .int 99680, .int 99681, .int 99682, .int 99683]) rnV (eu_tup (ea_cons ev_c (ea_cons ev_c (ea_cons ev_c (ea_cons ev_c (ea_cons ev_c ea_nil))))) (by decide)) (by decide) (fun x => rfl) fun x hx H2 e2 => ?_) hv)) (il_n (el_lst (ea_cons ev_c (ea_cons ev_c (ea_cons ev_c (ea_cons ev_c (ea_cons ev_c ea_nil))))) (by decide)))) rfl) fun H5 e5 => q H5 ((eA.trans e).trans e5)
      obtain ⟨n, rfl, hn⟩ := hg x hx
      exact rn_V n (rn n) hn (ev_var rfl) rfl
end
end Cw
namespace Cw
open PySem PySem.Spec PyProof.Rows L2 Evl Ch
local macro_rules | `(tactic| walk_at "cond") => `(tactic| first | omega | decide | (show _ ∧ _; constructor <;> first | omega | decide) | (show _ ∨ _; first | (left; constructor <;> omega) | (right; constructor <;> omega)) | (show _ ∧ _ ∧ _; refine ⟨?_, ?_, ?_⟩ <;> first | omega | decide))
local macro_rules | `(tactic| walk_at "ev") => `(tactic| first | ((with_reducible apply ev_var); rfl) | (with_reducible exact ev_c) | ((with_reducible apply ev_opI0) <;> walk_at "ev") | ((with_reducible apply ev_opI); walk_at "ev"; walk_at "ev"; walk_at "cond") | ((with_reducible apply ev_eqS); walk_at "ev"; walk_at "ev"; rfl) | ((with_reducible apply ev_neS); walk_at "ev"; walk_at "ev"; rfl) | ((with_reducible apply ev_isi); walk_at "ev"; walk_at "ev"; (first | exact ty_int | exact ty_bl | exact ty_str | exact ty_lst (by assumption)); (first | exact kit_ty (r := true) (by decide +kernel) | exact kit_ty (r := false) (by decide +kernel))) | ((with_reducible apply ev_notV); walk_at "ev") | ((with_reducible apply ev_sum); walk_at "ev"; exact sq_of (by assumption)) | (apply ev_len; walk_at "ev"; exact sq_of (by assumption)))
local macro_rules | `(tactic| walk_at "et") => `(tactic| first | ((with_reducible apply et_test); walk_at "ev") | ((with_reducible apply et_B); walk_at "ev") | ((with_reducible apply et_not); walk_at "et"))
section
variable {P : Program} {w : World} {K : PySem.W.Frag} {mg : Str → Option Value} {base : Heap}
def sp_law (K : PySem.W.Frag) (tP1 tP2 : Addr) : Sp := fun vs H Q _ => ∃ (a : Addr) (ns : List Int), vs = [.ref a] ∧ SqL K H a (ns.map V.int) ∧ LamX.Tabs (tbT tP1 tP2) H ∧ ∀ H', Q (.bl true) H'
section
variable {σ : L2.St} {H : Hp} {ta tb : TE} {Q : VK}
theorem ev_abs {i : Int} (ha : Ev ta σ H (.int i)) : Ev (tCB (fun xs H Q => ∃ i, xs = [.int i] ∧ Q (.int (if i < 0 then -i else i)) H) (tCons ta tNil)) σ H (.int (i.natAbs : Nat)) := fun H1 e Q q =>
  ha H1 e _ fun H2 e2 => ⟨i, rfl, by
    have e : (if i < 0 then -i else i) = (i.natAbs : Int) := by split <;> omega
    rw [e]
    exact q H2 e2⟩
theorem call_raw {sp : Sp} {E : XK} {ua : TA} {vs : List V} (h : EvA ua σ H vs) (k : ∀ H1, Ex H H1 → sp vs H1 Q E) : tCall sp [] E ua σ H Q := h H (Ex.refl H) _ fun H1 e => by
  have := k H1 e
  rw [← List.append_nil vs] at this
  exact this
theorem or_raw {R : Hp → Prop} {tc : TE} {tu : TT} {Q : Bool → Hp → Prop} (h : ∀ Q' : VK, (∀ H1, R H1 → Q' (.bl true) H1) → tc σ H Q') (k : ∀ H1, R H1 → tu σ H1 Q) : tOr (tNot (tB tc)) tu σ H Q := h _ fun H1 r => ⟨true, rfl, by
  show if (!true) = true then _ else _
  exact if_no (k H1 r)⟩
theorem not_raw {R : Hp → Prop} {tc : TE} {Q : Bool → Hp → Prop} (h : ∀ Q' : VK, (∀ H1, R H1 → Q' (.bl true) H1) → tc σ H Q') (k : ∀ H1, R H1 → Q false H1) : tNot (tB tc) σ H Q := h _ fun H1 r => ⟨true, rfl, k H1 r⟩
end
theorem powS (B i : Nat) : ((B ^ i : Nat) : Int) * ((B : Nat) : Int) = ((B ^ (i + 1) : Nat) : Int) := by rw [Nat.pow_succ, Int.natCast_mul]
theorem ok_law {f : Addr} {fd : FuncData} {tP1 tP2 BH BT : Addr} (T : Tx mg) (F : Fun K "law" "law" s_law f fd) (c__law_bad_right : Cal P w K mg base 7 "_law_bad_right" (sp_badr tP1 tP2)) (c__law_changed_right : Cal P w K mg base 6 "_law_changed_right" sp_changed) (c__law_hand_right : Cal P w K mg base 5 "_law_hand_right" sp_hand) (c_behind : CalX P w K mg base 3 "behind" (sp_behind BH BT)) : FnOk P w K mg base CX0 8 f fd ["_law_script"] (sp_law K tP1 tP2) := by
  refine F.ok sc_law (fun vs H Q E h => ?_) (fun cdv A outer s H vs Q E hr h => ?_)
  · obtain ⟨_, _, rfl, _⟩ := h
    rfl
  · obtain ⟨a, ns, rfl, hS, hT, q⟩ := h
    refine ⟨_, (pss_cons (ps_set (i := 1) sc_law.nd rfl (Or.inl rfl) (pe_callB call_abs (by rfl) T.b_abs (by decide +kernel) (pa_cons (pe_callB (r := rSum K) (cr_sum rfl) (by rfl) T.b_sum (by decide +kernel) (pa_cons (pe_slice (r := rSlL K) sl_list (pv 0) po_none (po_some pe_int)) pa_nil)) pa_nil)))
      (pss_cons (ps_if (PW.pt (pw_or (pt_not (pt_val (pe_c c__law_bad_right hr (by decide) (by rfl) (pa_cons (pe_op op_mod (pv 1) (pe_op op_pow pe_int pe_int)) pa_nil)))) (pw_or (pt_not (pt_val (pe_c0 c__law_changed_right hr (by decide) (by rfl)))) (pw_or1 (pt_not (pt_val (pe_c0 c__law_hand_right hr (by decide) (by rfl)))))))) (pss_one (ps_ret pe_bl)) pss_nil)
      (pss_cons (ps_set (i := 2) sc_law.nd rfl (Or.inl rfl) pe_int)
      (pss_cons (ps_for PassesOwn.never rfl (pi_range1 (by rfl) T.b_range (pa_cons pe_int pa_nil)) (pg_name (i := 3) sc_law.nd rfl (Or.inl rfl)) (pss_one (ps_set (i := 2) sc_law.nd rfl (Or.inl rfl) (pe_op op_mulW (pv 2) (pe_op op_pow pe_int pe_int)))))
      (pss_cons (ps_if (pt_cmpR (r := rNeD K) (op_neD hr.units) (pe_cX c_behind hr (by decide) (by rfl) takesN (pa_cons (pe_lst (pa_cons pe_int (pa_cons pe_int pa_nil))) (pa_cons (pe_op op_add (pe_op op_mulW pe_int (pv 2)) pe_int) pa_nil))) (pe_lst (pa_cons pe_int (pa_cons pe_int pa_nil))) (nomark _)) (pss_one (ps_ret pe_bl)) pss_nil)
      (pss_cons (ps_if (pt_cmpR (r := rNeD K) (op_neD hr.units) (pe_cX c_behind hr (by decide) (by rfl) takesN (pa_cons (pe_lst (pa_cons pe_int (pa_cons pe_int pa_nil))) (pa_cons (pe_op op_mulW pe_int (pv 2)) pa_nil))) (pe_lst (pa_cons pe_int (pa_cons pe_int pa_nil))) (nomark _)) (pss_one (ps_ret pe_bl)) pss_nil)
      (pss_cons (ps_if (pt_cmpR (r := rNeD K) (op_neD hr.units) (pe_cX c_behind hr (by decide) (by rfl) takesN (pa_cons (pe_lst (pa_cons pe_int (pa_cons pe_int (pa_cons pe_int pa_nil)))) (pa_cons (pe_op op_mulW pe_int (pv 2)) pa_nil))) (pe_lst (pa_cons pe_int (pa_cons pe_int pa_nil))) (nomark _)) (pss_one (ps_ret pe_bl)) pss_nil)
      (pss_one (ps_ret (pe_cmpR (r := rEqD K) (op_eqD hr.units) (pe_cX c_behind hr (by decide) (by rfl) takesN (pa_cons (pe_lst (pa_cons pe_int (pa_cons pe_int pa_nil))) (pa_cons (pe_op op_add (pv 2) (pv 1)) pa_nil))) (pe_lst (pa_cons pe_int (pa_cons pe_int pa_nil))) (nomark _))))))))))), ?_⟩
    refine q_asg (ev_abs (ev_sumN (el_is (el_sl (ev_var rfl) eo_none (eo_some ev_c) hS) (cut_takeV ns 63)))) fun H1 e1 => ?_
    generalize (ns.take 63).sum.natAbs = n
    have hT1 := hT.ext e1
    have hz : (n : Int) % 10 ^ (6 : Int).toNat = ((n % 10 ^ 6 : Nat) : Int) := by
      have hp : (10 : Int) ^ (6 : Int).toNat = ((10 ^ 6 : Nat) : Int) := by decide +kernel
      rw [hp]
      exact (Int.natCast_emod n (10 ^ 6)).symm
    refine or_raw (R := fun _ => True) (fun Q' q' => call_raw (vs := [.int ((n % 10 ^ 6 : Nat) : Int)]) (ea_cons (ev_i (ev_opI (g := fun i j => .int (i % j)) (ev_var rfl) (ev_opI (C := CPow) (g := fun i j => .int (i ^ j.toNat)) ev_c ev_c ⟨by decide, by decide, by decide⟩) (by decide)) hz) ea_nil) fun H2 e2 => ⟨_, rfl, hT1.ext e2, fun H3 _ _ => q' H3 trivial⟩) fun H2 _ => or_raw (R := fun _ => True) (fun Q' q' => call_raw (vs := []) ea_nil fun H3 e3 => ⟨rfl, fun H4 e4 => q' H4 trivial⟩) fun H3 _ => not_raw (R := fun _ => True) (fun Q' q' => call_raw (vs := []) ea_nil fun H4 e4 => ⟨rfl, fun H5 e5 => q' H5 trivial⟩) fun H4 _ => ?_
    refine if_no ?_
    refine (q_asg ev_c fun H5 e5 => ?_ : tSeq _ _ _ _ H4)
    have mulok : ∀ i : Fin 5, CMulW (((10 ^ 60) ^ i.val : Nat) : Int) ((10 : Int) ^ (60 : Int).toNat) := by
      intro i
      match i with
      | 0 => show _ + _ < _; decide +kernel
      | 1 => show _ + _ < _; decide +kernel
      | 2 => show _ + _ < _; decide +kernel
      | 3 => show _ + _ < _; decide +kernel
      | 4 => show _ + _ < _; decide +kernel
    refine q_forR1 (n := 5) (ea_cons ev_c ea_nil) (by decide) (fun i σ' H' => ∃ x3, σ' = [some (.ref a), some (.int (n : Int)), some (.int (((10 ^ 60) ^ i : Nat) : Int)), x3]) (fun H6 _ => ⟨none, rfl⟩) (fun i σ' H' hi hv => ?_) (fun σ' H' hv => ?_)
    · obtain ⟨x3, rfl⟩ := hv
      have hi5 : i < 5 := by omega
      refine s_asg (v := .int (((10 ^ 60) ^ (i + 1) : Nat) : Int)) (ev_i (ev_opI (C := CMulW) (g := fun i j => .int (i * j)) (ev_var rfl) (ev_opI (C := CPow) (g := fun i j => .int (i ^ j.toNat)) ev_c ev_c ⟨by decide, by decide, by decide⟩) (mulok ⟨i, hi5⟩)) ?_) fun H6 e6 => ⟨_, rfl⟩
      have h60 : (10 : Int) ^ (60 : Int).toNat = ((10 ^ 60 : Nat) : Int) := by decide +kernel
      rw [h60]
      exact powS (10 ^ 60) i
    · obtain ⟨x3, rfl⟩ := hv
      have mul3 : CMulW 3 (((10 ^ 60) ^ (5 : Int).toNat : Nat) : Int) := by
        show _ + _ < _
        decide +kernel
      have g1 : 1 ≤ (10 ^ 60) ^ (5 : Int).toNat := by decide +kernel
      generalize (10 ^ 60) ^ (5 : Int).toNat = G at mul3 g1
      have p31 : tn 3 [3, 1] = [3, 1] := by decide +kernel
      have t1 : tn (3 * G + 1) [3, 1] = [2, 2] := by
        rw [tn_add, tn_per p31]
        decide +kernel
      have t2 : tn (3 * G) [3, 1] = [3, 1] := tn_per p31 G
      have t3 : tn (3 * G) [1, 1, 1] = [2, 1] := by
        rw [show 3 * G = 2 + (3 * G - 2) by omega, tn_add, show tn 2 [1, 1, 1] = [2, 1] by decide +kernel, tn_fix (by decide +kernel)]
      have t4 : tn (G + n) [2, 1] = [2, 1] := tn_fix (by decide +kernel) _
      have m3 : ∀ {H0}, Ev (tOp (rI CMulW fun i j => .int (i * j)) (tC (.int 3)) (tVar 2)) [some (.ref a), some (.int (n : Int)), some (.int (G : Int)), x3] H0 (.int ((3 * G : Nat) : Int)) := ev_i (ev_opI (C := CMulW) (g := fun i j => .int (i * j)) ev_c (ev_var rfl) mul3) (by push_cast; rfl)
      have L2 : ∀ {x y : Int} {H0}, EvL (tLst (tCons (tC (.int x)) (tCons (tC (.int y)) tNil))) [some (.ref a), some (.int (n : Int)), some (.int (G : Int)), x3] H0 [.int x, .int y] := el_lst (ea_cons ev_c (ea_cons ev_c ea_nil)) (show 2 ≤ 100000 by decide)
      refine q_when (b := false) (et_is (et_test (ev_neI (a := cl (tn (3 * G + 1) [3, 1])) (b := [2, 2]) (il_p (be_N (3 * G + 1) hs31 (ep_n (ns := [3, 1]) L2) (ev_i (ev_opI0 (g := fun i j => .int (i + j)) m3 ev_c) (by push_cast; rfl)))) (il_n (ns := [2, 2]) L2))) (by rw [t1]; decide +kernel)) (fun h => nomatch h) fun _ H6 e6 => ?_
      refine q_when (b := false) (et_is (et_test (ev_neI (a := cl (tn (3 * G) [3, 1])) (b := [3, 1]) (il_p (be_N (3 * G) hs31 (ep_n (ns := [3, 1]) L2) m3)) (il_n (ns := [3, 1]) L2))) (by rw [t2]; decide +kernel)) (fun h => nomatch h) fun _ H7 e7 => ?_
      refine q_when (b := false) (et_is (et_test (ev_neI (a := cl (tn (3 * G) [1, 1, 1])) (b := [2, 1]) (il_p (be_N (3 * G) ⟨by decide, by decide, by decide⟩ (ep_n (ns := [1, 1, 1]) (el_lst (ea_cons ev_c (ea_cons ev_c (ea_cons ev_c ea_nil))) (by decide))) m3)) (il_n (ns := [2, 1]) L2))) (by rw [t3]; decide +kernel)) (fun h => nomatch h) fun _ H8 e8 => ?_
      exact s_ret (v := .bl true) (ev_bl (ev_eqI (a := cl (tn (G + n) [2, 1])) (b := [2, 1]) (il_p (be_N (G + n) hs21 (ep_n (ns := [2, 1]) L2) (ev_i (ev_opI0 (g := fun i j => .int (i + j)) (ev_var rfl) (ev_var rfl)) (by push_cast; rfl)))) (il_n (ns := [2, 1]) L2)) (by rw [t4]; decide +kernel)) fun H9 _ => q H9
end
end Cw
namespace Cw
open PySem PySem.Spec PyProof.Rows L2 Evl Ch
theorem all_mk {l : PySem.W.OpenLaw} {w : World} {K : PySem.W.Frag} {h : Heap} {q : Program} {loose : List Str} {mean : ExcName → Option Value} {mg mb : Str → Option Value} {fa : Addr} (X : K.In h) (TT : Top q (PySem.W.looseW q loose) mean mg mb h) (hfa : mg "law" = some (.ref fa))
    {R : Addr} (aCR : PySem.W.nsIn K mainGlobals "Round" = some (some (.ref R)))
    (pgR : PySem.W.plainGet K R Str.empty = true)
    (hdR : PySem.W.hasDictIn K R = true)
    (poR : PySem.W.plainOver K R = true)
    (saR : PySem.W.findIn K (.ref R) "__setattr__" = some (some (.builtin "object.__setattr__")))
    (mkR : PySem.W.makesIn K R = true)
    (kcR : PySem.W.keepIn K (.ref R) = true)
    (noR_stairs : PySem.W.findIn K (.ref R) "stairs" = some none)
    (noR_marks : PySem.W.findIn K (.ref R) "marks" = some none)
    {S : Addr} (aCS : PySem.W.nsIn K mainGlobals "Straight" = some (some (.ref S)))
    (pgS : PySem.W.plainGet K S Str.empty = true)
    (hdS : PySem.W.hasDictIn K S = true)
    (poS : PySem.W.plainOver K S = true)
    (saS : PySem.W.findIn K (.ref S) "__setattr__" = some (some (.builtin "object.__setattr__")))
    (mkS : PySem.W.makesIn K S = true)
    (kcS : PySem.W.keepIn K (.ref S) = true)
    (noS_turns : PySem.W.findIn K (.ref S) "turns" = some none)
    {AA : Addr} (aCAA : PySem.W.nsIn K mainGlobals "Answer" = some (some (.ref AA)))
    (ocn : PySem.W.specialIn K (.builtin "object.__class__") "__get__" = some (some (.builtin "getset_descriptor.__get__")))
    (oct : PySem.W.takesIn K (.builtin "object.__class__") = some true)
    (tyR0 : PySem.W.findIn K (.ref R) "__class__" = some (some (.builtin "object.__class__")))
    (tyR1 : PySem.W.mroIn K R (.type "object") = some true)
    (tyS0 : PySem.W.findIn K (.ref S) "__class__" = some (some (.builtin "object.__class__")))
    (tyS1 : PySem.W.mroIn K S (.type "object") = some true)
    (icR : PySem.W.isClsIn K R = true)
    (tpR : PySem.W.typeIn K (.ref R) = some (.type "type"))
    (icS : PySem.W.isClsIn K S = true)
    (tpS : PySem.W.typeIn K (.ref S) = some (.type "type"))
    (icAA : PySem.W.isClsIn K AA = true)
    (tpAA : PySem.W.typeIn K (.ref AA) = some (.type "type"))
    (sRAA : PySem.W.subIn K (.ref R) (.ref AA) = some true)
    (sRR : PySem.W.subIn K (.ref R) (.ref R) = some true)
    (sRS : PySem.W.subIn K (.ref R) (.ref S) = some false)
    (sSAA : PySem.W.subIn K (.ref S) (.ref AA) = some true)
    (sSR : PySem.W.subIn K (.ref S) (.ref R) = some false)
    (sSS : PySem.W.subIn K (.ref S) (.ref S) = some true)
    {CE : Addr} (aCCE : PySem.W.nsIn K mainGlobals "CardError" = some (some (.ref CE)))
    (bsCE : PySem.W.subIn K (.ref CE) (.type "BaseException") = some true)
    (hdCE : PySem.W.hasDictIn K CE = true)
    (tyCE : PySem.W.typeIn K (.ref CE) = some (.type "type"))
    {BH : Addr} (aCBH : PySem.W.nsIn K mainGlobals "BadHeaps" = some (some (.ref BH)))
    (exBH : PySem.W.excIn K BH [.type "ValueError", .type "Exception", .type "BaseException", .type "object"] "ValueError.__new__" = true)
    (kpBH : PySem.W.keepIn K (.ref BH) = true)
    (bsBH : PySem.W.subIn K (.ref BH) (.type "BaseException") = some true)
    (tyBH : PySem.W.typeIn K (.ref BH) = some (.type "type"))
    (hgBH : PySem.W.findIn K (.ref BH) "__getattribute__" = some (some (.builtin "BaseException.__getattribute__")))
    (hkBH : PySem.W.findIn K (.ref BH) "__getattr__" = some none)
    (hdBH : PySem.W.hasDictIn K BH = true)
    (haBH : PySem.W.findIn K (.ref BH) "__class__" = some (some (.builtin "object.__class__")))
    (hmBH : PySem.W.mroIn K BH (.type "object") = some true)
    (icBH : PySem.W.isClsIn K BH = true)
    (sEBH : PySem.W.subIn K (.ref BH) (.ref CE) = some true)
    {BT : Addr} (aCBT : PySem.W.nsIn K mainGlobals "BadTurns" = some (some (.ref BT)))
    (exBT : PySem.W.excIn K BT [.type "ValueError", .type "Exception", .type "BaseException", .type "object"] "ValueError.__new__" = true)
    (kpBT : PySem.W.keepIn K (.ref BT) = true)
    (bsBT : PySem.W.subIn K (.ref BT) (.type "BaseException") = some true)
    (tyBT : PySem.W.typeIn K (.ref BT) = some (.type "type"))
    (hgBT : PySem.W.findIn K (.ref BT) "__getattribute__" = some (some (.builtin "BaseException.__getattribute__")))
    (hkBT : PySem.W.findIn K (.ref BT) "__getattr__" = some none)
    (hdBT : PySem.W.hasDictIn K BT = true)
    (haBT : PySem.W.findIn K (.ref BT) "__class__" = some (some (.builtin "object.__class__")))
    (hmBT : PySem.W.mroIn K BT (.type "object") = some true)
    (icBT : PySem.W.isClsIn K BT = true)
    (sEBT : PySem.W.subIn K (.ref BT) (.ref CE) = some true)
    {BC : Addr} (aCBC : PySem.W.nsIn K mainGlobals "BadCards" = some (some (.ref BC)))
    (exBC : PySem.W.excIn K BC [.type "ValueError", .type "Exception", .type "BaseException", .type "object"] "ValueError.__new__" = true)
    (kpBC : PySem.W.keepIn K (.ref BC) = true)
    (bsBC : PySem.W.subIn K (.ref BC) (.type "BaseException") = some true)
    (tyBC : PySem.W.typeIn K (.ref BC) = some (.type "type"))
    (hgBC : PySem.W.findIn K (.ref BC) "__getattribute__" = some (some (.builtin "BaseException.__getattribute__")))
    (hkBC : PySem.W.findIn K (.ref BC) "__getattr__" = some none)
    (hdBC : PySem.W.hasDictIn K BC = true)
    (haBC : PySem.W.findIn K (.ref BC) "__class__" = some (some (.builtin "object.__class__")))
    (hmBC : PySem.W.mroIn K BC (.type "object") = some true)
    (icBC : PySem.W.isClsIn K BC = true)
    (sEBC : PySem.W.subIn K (.ref BC) (.ref CE) = some true)
    {BM : Addr} (aCBM : PySem.W.nsIn K mainGlobals "BadMarks" = some (some (.ref BM)))
    (exBM : PySem.W.excIn K BM [.type "ValueError", .type "Exception", .type "BaseException", .type "object"] "ValueError.__new__" = true)
    (kpBM : PySem.W.keepIn K (.ref BM) = true)
    (bsBM : PySem.W.subIn K (.ref BM) (.type "BaseException") = some true)
    (tyBM : PySem.W.typeIn K (.ref BM) = some (.type "type"))
    (hgBM : PySem.W.findIn K (.ref BM) "__getattribute__" = some (some (.builtin "BaseException.__getattribute__")))
    (hkBM : PySem.W.findIn K (.ref BM) "__getattr__" = some none)
    (hdBM : PySem.W.hasDictIn K BM = true)
    (haBM : PySem.W.findIn K (.ref BM) "__class__" = some (some (.builtin "object.__class__")))
    (hmBM : PySem.W.mroIn K BM (.type "object") = some true)
    (icBM : PySem.W.isClsIn K BM = true)
    (sEBM : PySem.W.subIn K (.ref BM) (.ref CE) = some true)
    (sBHBH : PySem.W.subIn K (.ref BH) (.ref BH) = some true)
    (sBHBT : PySem.W.subIn K (.ref BH) (.ref BT) = some false)
    (sBHBC : PySem.W.subIn K (.ref BH) (.ref BC) = some false)
    (sBHBM : PySem.W.subIn K (.ref BH) (.ref BM) = some false)
    (sBTBH : PySem.W.subIn K (.ref BT) (.ref BH) = some false)
    (sBTBT : PySem.W.subIn K (.ref BT) (.ref BT) = some true)
    (sBTBC : PySem.W.subIn K (.ref BT) (.ref BC) = some false)
    (sBTBM : PySem.W.subIn K (.ref BT) (.ref BM) = some false)
    (sBCBH : PySem.W.subIn K (.ref BC) (.ref BH) = some false)
    (sBCBT : PySem.W.subIn K (.ref BC) (.ref BT) = some false)
    (sBCBC : PySem.W.subIn K (.ref BC) (.ref BC) = some true)
    (sBCBM : PySem.W.subIn K (.ref BC) (.ref BM) = some false)
    (sBMBH : PySem.W.subIn K (.ref BM) (.ref BH) = some false)
    (sBMBT : PySem.W.subIn K (.ref BM) (.ref BT) = some false)
    (sBMBC : PySem.W.subIn K (.ref BM) (.ref BC) = some false)
    (sBMBM : PySem.W.subIn K (.ref BM) (.ref BM) = some true)
    {f0 : Addr} {od0 an0 : Option Addr} {sl0 : Array (Option Value)} {oc0 kV0 dc0 pm0 cd0 ct0 : Value}
    (a0 : PySem.W.nsIn K mainGlobals "is_number" = some (some (.ref f0))) (l0 : K.lookup f0 = some ⟨oc0, od0, .func (PySem.W.fnOf "is_number" "is_number" (defArgs s_is_number) (defBody s_is_number) (defScope s_is_number) .none kV0 dc0 pm0 an0 cd0 ct0), sl0⟩) (q0 : PySem.W.codeIn K cd0 "is_number" = true) (k0 : PySem.W.keepIn K (.ref f0) = true)
    {f1 : Addr} {od1 an1 : Option Addr} {sl1 : Array (Option Value)} {oc1 kV1 dc1 pm1 cd1 ct1 : Value}
    (a1 : PySem.W.nsIn K mainGlobals "check_heaps" = some (some (.ref f1))) (l1 : K.lookup f1 = some ⟨oc1, od1, .func (PySem.W.fnOf "check_heaps" "check_heaps" (defArgs s_check_heaps) (defBody s_check_heaps) (defScope s_check_heaps) .none kV1 dc1 pm1 an1 cd1 ct1), sl1⟩) (q1 : PySem.W.codeIn K cd1 "check_heaps" = true) (k1 : PySem.W.keepIn K (.ref f1) = true)
    {f2 : Addr} {od2 an2 : Option Addr} {sl2 : Array (Option Value)} {oc2 kV2 dc2 pm2 cd2 ct2 : Value}
    (a2 : PySem.W.nsIn K mainGlobals "turn_of" = some (some (.ref f2))) (l2 : K.lookup f2 = some ⟨oc2, od2, .func (PySem.W.fnOf "turn_of" "turn_of" (defArgs s_turn_of) (defBody s_turn_of) (defScope s_turn_of) .none kV2 dc2 pm2 an2 cd2 ct2), sl2⟩) (q2 : PySem.W.codeIn K cd2 "turn_of" = true) (k2 : PySem.W.keepIn K (.ref f2) = true)
    {f3 : Addr} {od3 an3 : Option Addr} {sl3 : Array (Option Value)} {oc3 kV3 dc3 pm3 cd3 ct3 : Value}
    (a3 : PySem.W.nsIn K mainGlobals "turned" = some (some (.ref f3))) (l3 : K.lookup f3 = some ⟨oc3, od3, .func (PySem.W.fnOf "turned" "turned" (defArgs s_turned) (defBody s_turned) (defScope s_turned) .none kV3 dc3 pm3 an3 cd3 ct3), sl3⟩) (q3 : PySem.W.codeIn K cd3 "turned" = true) (k3 : PySem.W.keepIn K (.ref f3) = true)
    {f4 : Addr} {od4 an4 : Option Addr} {sl4 : Array (Option Value)} {oc4 kV4 dc4 pm4 cd4 ct4 : Value}
    (a4 : PySem.W.nsIn K mainGlobals "stairs_of" = some (some (.ref f4))) (l4 : K.lookup f4 = some ⟨oc4, od4, .func (PySem.W.fnOf "stairs_of" "stairs_of" (defArgs s_stairs_of) (defBody s_stairs_of) (defScope s_stairs_of) .none kV4 dc4 pm4 an4 cd4 ct4), sl4⟩) (q4 : PySem.W.codeIn K cd4 "stairs_of" = true) (k4 : PySem.W.keepIn K (.ref f4) = true)
    {f5 : Addr} {od5 an5 : Option Addr} {sl5 : Array (Option Value)} {oc5 kV5 dc5 pm5 cd5 ct5 : Value}
    (a5 : PySem.W.nsIn K mainGlobals "marks_of" = some (some (.ref f5))) (l5 : K.lookup f5 = some ⟨oc5, od5, .func (PySem.W.fnOf "marks_of" "marks_of" (defArgs s_marks_of) (defBody s_marks_of) (defScope s_marks_of) .none kV5 dc5 pm5 an5 cd5 ct5), sl5⟩) (q5 : PySem.W.codeIn K cd5 "marks_of" = true) (k5 : PySem.W.keepIn K (.ref f5) = true)
    {f6 : Addr} {od6 an6 : Option Addr} {sl6 : Array (Option Value)} {oc6 kV6 dc6 pm6 cd6 ct6 : Value}
    (a6 : PySem.W.nsIn K mainGlobals "standing" = some (some (.ref f6))) (l6 : K.lookup f6 = some ⟨oc6, od6, .func (PySem.W.fnOf "standing" "standing" (defArgs s_standing) (defBody s_standing) (defScope s_standing) .none kV6 dc6 pm6 an6 cd6 ct6), sl6⟩) (q6 : PySem.W.codeIn K cd6 "standing" = true) (k6 : PySem.W.keepIn K (.ref f6) = true)
    {f7 : Addr} {od7 an7 : Option Addr} {sl7 : Array (Option Value)} {oc7 kV7 dc7 pm7 cd7 ct7 : Value}
    (a7 : PySem.W.nsIn K mainGlobals "turns_to" = some (some (.ref f7))) (l7 : K.lookup f7 = some ⟨oc7, od7, .func (PySem.W.fnOf "turns_to" "turns_to" (defArgs s_turns_to) (defBody s_turns_to) (defScope s_turns_to) .none kV7 dc7 pm7 an7 cd7 ct7), sl7⟩) (q7 : PySem.W.codeIn K cd7 "turns_to" = true) (k7 : PySem.W.keepIn K (.ref f7) = true)
    {f8 : Addr} {od8 an8 : Option Addr} {sl8 : Array (Option Value)} {oc8 kV8 dc8 pm8 cd8 ct8 : Value}
    (a8 : PySem.W.nsIn K mainGlobals "ahead" = some (some (.ref f8))) (l8 : K.lookup f8 = some ⟨oc8, od8, .func (PySem.W.fnOf "ahead" "ahead" (defArgs s_ahead) (defBody s_ahead) (defScope s_ahead) .none kV8 dc8 pm8 an8 cd8 ct8), sl8⟩) (q8 : PySem.W.codeIn K cd8 "ahead" = true) (k8 : PySem.W.keepIn K (.ref f8) = true)
    {f9 : Addr} {od9 an9 : Option Addr} {sl9 : Array (Option Value)} {oc9 kV9 dc9 pm9 cd9 ct9 : Value}
    (a9 : PySem.W.nsIn K mainGlobals "length" = some (some (.ref f9))) (l9 : K.lookup f9 = some ⟨oc9, od9, .func (PySem.W.fnOf "length" "length" (defArgs s_length) (defBody s_length) (defScope s_length) .none kV9 dc9 pm9 an9 cd9 ct9), sl9⟩) (q9 : PySem.W.codeIn K cd9 "length" = true) (k9 : PySem.W.keepIn K (.ref f9) = true)
    {f10 : Addr} {od10 an10 : Option Addr} {sl10 : Array (Option Value)} {oc10 kV10 dc10 pm10 cd10 ct10 : Value}
    (a10 : PySem.W.nsIn K mainGlobals "behind" = some (some (.ref f10))) (l10 : K.lookup f10 = some ⟨oc10, od10, .func (PySem.W.fnOf "behind" "behind" (defArgs s_behind) (defBody s_behind) (defScope s_behind) .none kV10 dc10 pm10 an10 cd10 ct10), sl10⟩) (q10 : PySem.W.codeIn K cd10 "behind" = true) (k10 : PySem.W.keepIn K (.ref f10) = true)
    {f11 : Addr} {od11 an11 : Option Addr} {sl11 : Array (Option Value)} {oc11 kV11 dc11 pm11 cd11 ct11 : Value}
    (a11 : PySem.W.findIn K (.ref R) "__init__" = some (some (.ref f11))) (i11 : PySem.W.isFn K (.ref f11) = true) (l11 : K.lookup f11 = some ⟨oc11, od11, .func (PySem.W.fnOf "__init__" "Round.__init__" (defArgs s_Round___init__) (defBody s_Round___init__) (defScope s_Round___init__) .none kV11 dc11 pm11 an11 cd11 ct11), sl11⟩) (q11 : PySem.W.codeIn K cd11 "Round.__init__" = true) (k11 : PySem.W.keepIn K (.ref f11) = true)
    {f12 : Addr} {od12 an12 : Option Addr} {sl12 : Array (Option Value)} {oc12 kV12 dc12 pm12 cd12 ct12 : Value}
    (a12 : PySem.W.findIn K (.ref S) "__init__" = some (some (.ref f12))) (i12 : PySem.W.isFn K (.ref f12) = true) (l12 : K.lookup f12 = some ⟨oc12, od12, .func (PySem.W.fnOf "__init__" "Straight.__init__" (defArgs s_Straight___init__) (defBody s_Straight___init__) (defScope s_Straight___init__) .none kV12 dc12 pm12 an12 cd12 ct12), sl12⟩) (q12 : PySem.W.codeIn K cd12 "Straight.__init__" = true) (k12 : PySem.W.keepIn K (.ref f12) = true)
    {f13 : Addr} {od13 an13 : Option Addr} {sl13 : Array (Option Value)} {oc13 kV13 dc13 pm13 cd13 ct13 : Value}
    (a13 : PySem.W.findIn K (.ref R) "shows" = some (some (.ref f13))) (i13 : PySem.W.isFn K (.ref f13) = true) (l13 : K.lookup f13 = some ⟨oc13, od13, .func (PySem.W.fnOf "shows" "Round.shows" (defArgs s_Round_shows) (defBody s_Round_shows) (defScope s_Round_shows) .none kV13 dc13 pm13 an13 cd13 ct13), sl13⟩) (q13 : PySem.W.codeIn K cd13 "Round.shows" = true) (k13 : PySem.W.keepIn K (.ref f13) = true)
    {f14 : Addr} {od14 an14 : Option Addr} {sl14 : Array (Option Value)} {oc14 kV14 dc14 pm14 cd14 ct14 : Value}
    (a14 : PySem.W.findIn K (.ref S) "shows" = some (some (.ref f14))) (i14 : PySem.W.isFn K (.ref f14) = true) (l14 : K.lookup f14 = some ⟨oc14, od14, .func (PySem.W.fnOf "shows" "Straight.shows" (defArgs s_Straight_shows) (defBody s_Straight_shows) (defScope s_Straight_shows) .none kV14 dc14 pm14 an14 cd14 ct14), sl14⟩) (q14 : PySem.W.codeIn K cd14 "Straight.shows" = true) (k14 : PySem.W.keepIn K (.ref f14) = true)
    {f15 : Addr} {od15 an15 : Option Addr} {sl15 : Array (Option Value)} {oc15 kV15 dc15 pm15 cd15 ct15 : Value}
    (a15 : PySem.W.nsIn K mainGlobals "told" = some (some (.ref f15))) (l15 : K.lookup f15 = some ⟨oc15, od15, .func (PySem.W.fnOf "told" "told" (defArgs s_told) (defBody s_told) (defScope s_told) .none kV15 dc15 pm15 an15 cd15 ct15), sl15⟩) (q15 : PySem.W.codeIn K cd15 "told" = true) (k15 : PySem.W.keepIn K (.ref f15) = true)
    {f16 : Addr} {od16 an16 : Option Addr} {sl16 : Array (Option Value)} {oc16 kV16 dc16 pm16 cd16 ct16 : Value}
    (a16 : PySem.W.nsIn K mainGlobals "common" = some (some (.ref f16))) (l16 : K.lookup f16 = some ⟨oc16, od16, .func (PySem.W.fnOf "common" "common" (defArgs s_common) (defBody s_common) (defScope s_common) .none kV16 dc16 pm16 an16 cd16 ct16), sl16⟩) (q16 : PySem.W.codeIn K cd16 "common" = true) (k16 : PySem.W.keepIn K (.ref f16) = true)
    {f17 : Addr} {od17 an17 : Option Addr} {sl17 : Array (Option Value)} {oc17 kV17 dc17 pm17 cd17 ct17 : Value}
    (a17 : PySem.W.nsIn K mainGlobals "picks" = some (some (.ref f17))) (l17 : K.lookup f17 = some ⟨oc17, od17, .func (PySem.W.fnOf "picks" "picks" (defArgs s_picks) (defBody s_picks) (defScope s_picks) .none kV17 dc17 pm17 an17 cd17 ct17), sl17⟩) (q17 : PySem.W.codeIn K cd17 "picks" = true) (k17 : PySem.W.keepIn K (.ref f17) = true)
    {f18 : Addr} {od18 an18 : Option Addr} {sl18 : Array (Option Value)} {oc18 kV18 dc18 pm18 cd18 ct18 : Value}
    (a18 : PySem.W.nsIn K mainGlobals "rounds" = some (some (.ref f18))) (l18 : K.lookup f18 = some ⟨oc18, od18, .func (PySem.W.fnOf "rounds" "rounds" (defArgs s_rounds) (defBody s_rounds) (defScope s_rounds) .none kV18 dc18 pm18 an18 cd18 ct18), sl18⟩) (q18 : PySem.W.codeIn K cd18 "rounds" = true) (k18 : PySem.W.keepIn K (.ref f18) = true)
    {f19 : Addr} {od19 an19 : Option Addr} {sl19 : Array (Option Value)} {oc19 kV19 dc19 pm19 cd19 ct19 : Value}
    (a19 : PySem.W.nsIn K mainGlobals "heaps_of" = some (some (.ref f19))) (l19 : K.lookup f19 = some ⟨oc19, od19, .func (PySem.W.fnOf "heaps_of" "heaps_of" (defArgs s_heaps_of) (defBody s_heaps_of) (defScope s_heaps_of) .none kV19 dc19 pm19 an19 cd19 ct19), sl19⟩) (q19 : PySem.W.codeIn K cd19 "heaps_of" = true) (k19 : PySem.W.keepIn K (.ref f19) = true)
    {f20 : Addr} {od20 an20 : Option Addr} {sl20 : Array (Option Value)} {oc20 kV20 dc20 pm20 cd20 ct20 : Value}
    (a20 : PySem.W.nsIn K mainGlobals "_law_doors" = some (some (.ref f20))) (l20 : K.lookup f20 = some ⟨oc20, od20, .func (PySem.W.fnOf "_law_doors" "_law_doors" (defArgs s__law_doors) (defBody s__law_doors) (defScope s__law_doors) .none kV20 dc20 pm20 an20 cd20 ct20), sl20⟩) (q20 : PySem.W.codeIn K cd20 "_law_doors" = true) (k20 : PySem.W.keepIn K (.ref f20) = true)
    {f21 : Addr} {od21 an21 : Option Addr} {sl21 : Array (Option Value)} {oc21 kV21 dc21 pm21 cd21 ct21 : Value}
    (a21 : PySem.W.nsIn K mainGlobals "_law_refused" = some (some (.ref f21))) (l21 : K.lookup f21 = some ⟨oc21, od21, .func (PySem.W.fnOf "_law_refused" "_law_refused" (defArgs s__law_refused) (defBody s__law_refused) (defScope s__law_refused) .none kV21 dc21 pm21 an21 cd21 ct21), sl21⟩) (q21 : PySem.W.codeIn K cd21 "_law_refused" = true) (k21 : PySem.W.keepIn K (.ref f21) = true)
    {f22 : Addr} {od22 an22 : Option Addr} {sl22 : Array (Option Value)} {oc22 kV22 dc22 pm22 cd22 ct22 : Value}
    (a22 : PySem.W.nsIn K mainGlobals "_law_spoiled" = some (some (.ref f22))) (l22 : K.lookup f22 = some ⟨oc22, od22, .func (PySem.W.fnOf "_law_spoiled" "_law_spoiled" (defArgs s__law_spoiled) (defBody s__law_spoiled) (defScope s__law_spoiled) .none kV22 dc22 pm22 an22 cd22 ct22), sl22⟩) (q22 : PySem.W.codeIn K cd22 "_law_spoiled" = true) (k22 : PySem.W.keepIn K (.ref f22) = true)
    {f23 : Addr} {od23 an23 : Option Addr} {sl23 : Array (Option Value)} {oc23 kV23 dc23 pm23 cd23 ct23 : Value}
    (a23 : PySem.W.nsIn K mainGlobals "_law_bad_right" = some (some (.ref f23))) (l23 : K.lookup f23 = some ⟨oc23, od23, .func (PySem.W.fnOf "_law_bad_right" "_law_bad_right" (defArgs s__law_bad_right) (defBody s__law_bad_right) (defScope s__law_bad_right) .none kV23 dc23 pm23 an23 cd23 ct23), sl23⟩) (q23 : PySem.W.codeIn K cd23 "_law_bad_right" = true) (k23 : PySem.W.keepIn K (.ref f23) = true)
    {f24 : Addr} {od24 an24 : Option Addr} {sl24 : Array (Option Value)} {oc24 kV24 dc24 pm24 cd24 ct24 : Value}
    (a24 : PySem.W.nsIn K mainGlobals "_law_sound" = some (some (.ref f24))) (l24 : K.lookup f24 = some ⟨oc24, od24, .func (PySem.W.fnOf "_law_sound" "_law_sound" (defArgs s__law_sound) (defBody s__law_sound) (defScope s__law_sound) .none kV24 dc24 pm24 an24 cd24 ct24), sl24⟩) (q24 : PySem.W.codeIn K cd24 "_law_sound" = true) (k24 : PySem.W.keepIn K (.ref f24) = true)
    {f25 : Addr} {od25 an25 : Option Addr} {sl25 : Array (Option Value)} {oc25 kV25 dc25 pm25 cd25 ct25 : Value}
    (a25 : PySem.W.nsIn K mainGlobals "_law_told_right" = some (some (.ref f25))) (l25 : K.lookup f25 = some ⟨oc25, od25, .func (PySem.W.fnOf "_law_told_right" "_law_told_right" (defArgs s__law_told_right) (defBody s__law_told_right) (defScope s__law_told_right) .none kV25 dc25 pm25 an25 cd25 ct25), sl25⟩) (q25 : PySem.W.codeIn K cd25 "_law_told_right" = true) (k25 : PySem.W.keepIn K (.ref f25) = true)
    {f26 : Addr} {od26 an26 : Option Addr} {sl26 : Array (Option Value)} {oc26 kV26 dc26 pm26 cd26 ct26 : Value}
    (a26 : PySem.W.nsIn K mainGlobals "_law_changed_right" = some (some (.ref f26))) (l26 : K.lookup f26 = some ⟨oc26, od26, .func (PySem.W.fnOf "_law_changed_right" "_law_changed_right" (defArgs s__law_changed_right) (defBody s__law_changed_right) (defScope s__law_changed_right) .none kV26 dc26 pm26 an26 cd26 ct26), sl26⟩) (q26 : PySem.W.codeIn K cd26 "_law_changed_right" = true) (k26 : PySem.W.keepIn K (.ref f26) = true)
    {f27 : Addr} {od27 an27 : Option Addr} {sl27 : Array (Option Value)} {oc27 kV27 dc27 pm27 cd27 ct27 : Value}
    (a27 : PySem.W.nsIn K mainGlobals "_law_hand_right" = some (some (.ref f27))) (l27 : K.lookup f27 = some ⟨oc27, od27, .func (PySem.W.fnOf "_law_hand_right" "_law_hand_right" (defArgs s__law_hand_right) (defBody s__law_hand_right) (defScope s__law_hand_right) .none kV27 dc27 pm27 an27 cd27 ct27), sl27⟩) (q27 : PySem.W.codeIn K cd27 "_law_hand_right" = true) (k27 : PySem.W.keepIn K (.ref f27) = true)
    {f28 : Addr} {od28 an28 : Option Addr} {sl28 : Array (Option Value)} {oc28 kV28 dc28 pm28 cd28 ct28 : Value}
    (a28 : PySem.W.nsIn K mainGlobals "law" = some (some (.ref f28))) (l28 : K.lookup f28 = some ⟨oc28, od28, .func (PySem.W.fnOf "law" "law" (defArgs s_law) (defBody s_law) (defScope s_law) .none kV28 dc28 pm28 an28 cd28 ct28), sl28⟩) (q28 : PySem.W.codeIn K cd28 "law" = true) (k28 : PySem.W.keepIn K (.ref f28) = true)
    (z0 : PySem.W.nsIn K mainGlobals "ValueError" = some none)
    (z1 : PySem.W.nsIn K mainGlobals "abs" = some none)
    (z2 : PySem.W.nsIn K mainGlobals "all" = some none)
    (z3 : PySem.W.nsIn K mainGlobals "any" = some none)
    (z4 : PySem.W.nsIn K mainGlobals "bool" = some none)
    (z5 : PySem.W.nsIn K mainGlobals "enumerate" = some none)
    (z6 : PySem.W.nsIn K mainGlobals "int" = some none)
    (z7 : PySem.W.nsIn K mainGlobals "isinstance" = some none)
    (z8 : PySem.W.nsIn K mainGlobals "len" = some none)
    (z9 : PySem.W.nsIn K mainGlobals "list" = some none)
    (z10 : PySem.W.nsIn K mainGlobals "range" = some none)
    (z11 : PySem.W.nsIn K mainGlobals "set" = some none)
    (z12 : PySem.W.nsIn K mainGlobals "sorted" = some none)
    (z13 : PySem.W.nsIn K mainGlobals "str" = some none)
    (z14 : PySem.W.nsIn K mainGlobals "sum" = some none)
    (z15 : PySem.W.nsIn K mainGlobals "tuple" = some none)
    {t0 : Tok} (y0 : PySem.W.nsIn K mainGlobals "MOST_CARDS" = some (some (.int 400 t0)))
    {t1 : Tok} (y1 : PySem.W.nsIn K mainGlobals "MOST_COUNTED" = some (some (.int 100000 t1)))
    (hrec1 : ((recsOf q).any fun e => e.name == "_law_doors") = true)
    (hrec2 : ((recsOf q).any fun e => e.name == "_law_bad_right") = true)
    (hnt : PySem.W.noTabs K = true)
    {tc1 tP1 : Addr} {xc1 : Value} {xd1 : Option Addr} {xs1 : Array Value} {xl1 : Array (Option Value)} (hcd1 : cd20 = .ref tc1) (lk1 : K.lookup tc1 = some ⟨xc1, xd1, .fields xs1, xl1⟩) (hx1 : xs1[11]? = some (.ref tP1))
    {tc2 tP2 : Addr} {xc2 : Value} {xd2 : Option Addr} {xs2 : Array Value} {xl2 : Array (Option Value)} (hcd2 : cd23 = .ref tc2) (lk2 : K.lookup tc2 = some ⟨xc2, xd2, .fields xs2, xl2⟩) (hx2 : xs2[11]? = some (.ref tP2))
    (tne : tP1 ≠ tP2)
    : LamX.LawAtS l w K CX0 8 63 "_law_script" mg fa h := by
  have G := TT.g
  have e := hfa.symm.trans (PySem.W.mg_of X G a28)
  cases e
  have F0 := fun_mk (st := s_is_number) l0 q0 k0
  have B0 := F0.binds (ps := ["thing", "least"]) fun _ _ _ _ _ _ us hl => match us, hl with | [_, _], _ => rfl
  have F1 := fun_mk (st := s_check_heaps) l1 q1 k1
  have B1 := F1.binds (ps := ["heaps"]) fun _ _ _ _ _ _ us hl => match us, hl with | [_], _ => rfl
  have F2 := fun_mk (st := s_turn_of) l2 q2 k2
  have B2 := F2.binds (ps := ["heaps"]) fun _ _ _ _ _ _ us hl => match us, hl with | [_], _ => rfl
  have F3 := fun_mk (st := s_turned) l3 q3 k3
  have B3 := F3.binds (ps := ["heaps"]) fun _ _ _ _ _ _ us hl => match us, hl with | [_], _ => rfl
  have F4 := fun_mk (st := s_stairs_of) l4 q4 k4
  have B4 := F4.binds (ps := ["cards"]) fun _ _ _ _ _ _ us hl => match us, hl with | [_], _ => rfl
  have F5 := fun_mk (st := s_marks_of) l5 q5 k5
  have B5 := F5.binds (ps := ["heaps"]) fun _ _ _ _ _ _ us hl => match us, hl with | [_], _ => rfl
  have F6 := fun_mk (st := s_standing) l6 q6 k6
  have B6 := F6.binds (ps := ["stairs", "marks"]) fun _ _ _ _ _ _ us hl => match us, hl with | [_, _], _ => rfl
  have F7 := fun_mk (st := s_turns_to) l7 q7 k7
  have B7 := F7.binds (ps := ["heaps"]) fun _ _ _ _ _ _ us hl => match us, hl with | [_], _ => rfl
  have F8 := fun_mk (st := s_ahead) l8 q8 k8
  have B8 := F8.binds (ps := ["heaps"]) fun _ _ _ _ _ _ us hl => match us, hl with | [_], _ => rfl
  have F9 := fun_mk (st := s_length) l9 q9 k9
  have B9 := F9.binds (ps := ["heaps"]) fun _ _ _ _ _ _ us hl => match us, hl with | [_], _ => rfl
  have F10 := fun_mk (st := s_behind) l10 q10 k10
  have B10 := F10.binds (ps := ["heaps", "turns"]) fun _ _ _ _ _ _ us hl => match us, hl with | [_, _], _ => rfl
  have F11 := fun_mk (st := s_Round___init__) l11 q11 k11
  have B11 := F11.binds (ps := ["self", "stairs", "marks"]) fun _ _ _ _ _ _ us hl => match us, hl with | [_, _, _], _ => rfl
  have F12 := fun_mk (st := s_Straight___init__) l12 q12 k12
  have B12 := F12.binds (ps := ["self", "turns"]) fun _ _ _ _ _ _ us hl => match us, hl with | [_, _], _ => rfl
  have F13 := fun_mk (st := s_Round_shows) l13 q13 k13
  have B13 := F13.binds (ps := ["self", "heaps"]) fun _ _ _ _ _ _ us hl => match us, hl with | [_, _], _ => rfl
  have F14 := fun_mk (st := s_Straight_shows) l14 q14 k14
  have B14 := F14.binds (ps := ["self", "heaps"]) fun _ _ _ _ _ _ us hl => match us, hl with | [_, _], _ => rfl
  have F15 := fun_mk (st := s_told) l15 q15 k15
  have B15 := F15.binds (ps := ["heaps"]) fun _ _ _ _ _ _ us hl => match us, hl with | [_], _ => rfl
  have F16 := fun_mk (st := s_common) l16 q16 k16
  have B16 := F16.binds (ps := ["one", "other"]) fun _ _ _ _ _ _ us hl => match us, hl with | [_, _], _ => rfl
  have F17 := fun_mk (st := s_picks) l17 q17 k17
  have B17 := F17.binds (ps := ["many", "some"]) fun _ _ _ _ _ _ us hl => match us, hl with | [_, _], _ => rfl
  have F18 := fun_mk (st := s_rounds) l18 q18 k18
  have B18 := F18.binds (ps := ["cards"]) fun _ _ _ _ _ _ us hl => match us, hl with | [_], _ => rfl
  have F19 := fun_mk (st := s_heaps_of) l19 q19 k19
  have B19 := F19.binds (ps := ["stairs", "marks"]) fun _ _ _ _ _ _ us hl => match us, hl with | [_, _], _ => rfl
  have F20 := fun_mk (st := s__law_doors) l20 q20 k20
  have B20 := F20.binds (ps := ["_law_heaps"]) fun _ _ _ _ _ _ us hl => match us, hl with | [_], _ => rfl
  have F21 := fun_mk (st := s__law_refused) l21 q21 k21
  have B21 := F21.binds (ps := ["_law_ask", "_law_due"]) fun _ _ _ _ _ _ us hl => match us, hl with | [_, _], _ => rfl
  have F22 := fun_mk (st := s__law_spoiled) l22 q22 k22
  have B22 := F22.binds (ps := ["_law_good", "_law_more", "_law_odd"]) fun _ _ _ _ _ _ us hl => match us, hl with | [_, _, _], _ => rfl
  have F23 := fun_mk (st := s__law_bad_right) l23 q23 k23
  have B23 := F23.binds (ps := ["_law_more"]) fun _ _ _ _ _ _ us hl => match us, hl with | [_], _ => rfl
  have F24 := fun_mk (st := s__law_sound) l24 q24 k24
  have B24 := F24.binds (ps := ["_law_thing"]) fun _ _ _ _ _ _ us hl => match us, hl with | [_], _ => rfl
  have F25 := fun_mk (st := s__law_told_right) l25 q25 k25
  have B25 := F25.binds (ps := ["_law_mine", "_law_first"]) fun _ _ _ _ _ _ us hl => match us, hl with | [_, _], _ => rfl
  have F26 := fun_mk (st := s__law_changed_right) l26 q26 k26
  have B26 := F26.binds (ps := []) fun _ _ _ _ _ _ us hl => match us, hl with | [], _ => rfl
  have F27 := fun_mk (st := s__law_hand_right) l27 q27 k27
  have B27 := F27.binds (ps := []) fun _ _ _ _ _ _ us hl => match us, hl with | [], _ => rfl
  have F28 := fun_mk (st := s_law) l28 q28 k28
  have T : Tx mg := { b_ValueError := PySem.W.mg_none_of X G z0, b_abs := PySem.W.mg_none_of X G z1, b_all := PySem.W.mg_none_of X G z2, b_any := PySem.W.mg_none_of X G z3, b_bool := PySem.W.mg_none_of X G z4, b_enumerate := PySem.W.mg_none_of X G z5, b_int := PySem.W.mg_none_of X G z6, b_isinstance := PySem.W.mg_none_of X G z7, b_len := PySem.W.mg_none_of X G z8, b_list := PySem.W.mg_none_of X G z9, b_range := PySem.W.mg_none_of X G z10, b_set := PySem.W.mg_none_of X G z11, b_sorted := PySem.W.mg_none_of X G z12, b_str := PySem.W.mg_none_of X G z13, b_sum := PySem.W.mg_none_of X G z14, b_tuple := PySem.W.mg_none_of X G z15, c_MOST_CARDS := ⟨_, PySem.W.mg_of X G y0⟩, c_MOST_COUNTED := ⟨_, PySem.W.mg_of X G y1⟩ }
  have C : Clx K R S := ⟨⟨pgR, hdR, poR, saR⟩, noR_stairs, noR_marks, ⟨pgS, hdS, poS, saS⟩, noS_turns⟩
  have D : Cly K mg AA R S := ⟨PySem.W.mg_of X G aCAA, PySem.W.mg_of X G aCR, PySem.W.mg_of X G aCS, ⟨⟨pgR, hdR, poR, saR⟩, tyR0, ocn, oct, tyR1⟩, ⟨⟨pgS, hdS, poS, saS⟩, tyS0, ocn, oct, tyS1⟩, kit_own icAA tpAA sRAA sRR, kit_own icR tpR sRR sRR, kit_own icS tpS sRS sRR, kit_own icAA tpAA sSAA sSS, kit_own icR tpR sSR sSS, kit_own icS tpS sSS sSS⟩
  have x_BadHeaps : Exn K mg "BadHeaps" BH := ⟨exBH, PySem.W.mg_of X G aCBH, kpBH, bsBH, tyBH⟩
  have x_BadTurns : Exn K mg "BadTurns" BT := ⟨exBT, PySem.W.mg_of X G aCBT, kpBT, bsBT, tyBT⟩
  have x_BadCards : Exn K mg "BadCards" BC := ⟨exBC, PySem.W.mg_of X G aCBC, kpBC, bsBC, tyBC⟩
  have x_BadMarks : Exn K mg "BadMarks" BM := ⟨exBM, PySem.W.mg_of X G aCBM, kpBM, bsBM, tyBM⟩
  have hec : ∀ i, ExcC K (cl4 BH BT BC BM i) := fun i => by
    match i with
    | 0 => exact ⟨hgBH, hkBH, bsBH, hdBH, haBH, ocn, oct, hmBH⟩
    | 1 => exact ⟨hgBT, hkBT, bsBT, hdBT, haBT, ocn, oct, hmBT⟩
    | 2 => exact ⟨hgBC, hkBC, bsBC, hdBC, haBC, ocn, oct, hmBC⟩
    | 3 => exact ⟨hgBM, hkBM, bsBM, hdBM, haBM, ocn, oct, hmBM⟩
  have hem : ∀ i, PySem.W.exmOne K (.ref (cl4 BH BT BC BM i)) (.ref CE) = some true := fun i => by
    match i with
    | 0 => exact PySem.W.exm_ref bsCE hdCE tyCE sEBH
    | 1 => exact PySem.W.exm_ref bsCE hdCE tyCE sEBT
    | 2 => exact PySem.W.exm_ref bsCE hdCE tyCE sEBC
    | 3 => exact PySem.W.exm_ref bsCE hdCE tyCE sEBM
  have hkt : ∀ i j, PySem.W.kitOne K (.ref (cl4 BH BT BC BM i)) (.ref (cl4 BH BT BC BM j)) = some (decide (i = j)) := fun i j => by
    match i, j with
    | 0, 0 => exact kit_own icBH tyBH sBHBH sBHBH
    | 0, 1 => exact kit_own icBT tyBT sBHBT sBHBH
    | 0, 2 => exact kit_own icBC tyBC sBHBC sBHBH
    | 0, 3 => exact kit_own icBM tyBM sBHBM sBHBH
    | 1, 0 => exact kit_own icBH tyBH sBTBH sBTBT
    | 1, 1 => exact kit_own icBT tyBT sBTBT sBTBT
    | 1, 2 => exact kit_own icBC tyBC sBTBC sBTBT
    | 1, 3 => exact kit_own icBM tyBM sBTBM sBTBT
    | 2, 0 => exact kit_own icBH tyBH sBCBH sBCBC
    | 2, 1 => exact kit_own icBT tyBT sBCBT sBCBC
    | 2, 2 => exact kit_own icBC tyBC sBCBC sBCBC
    | 2, 3 => exact kit_own icBM tyBM sBCBM sBCBC
    | 3, 0 => exact kit_own icBH tyBH sBMBH sBMBM
    | 3, 1 => exact kit_own icBT tyBT sBMBT sBMBM
    | 3, 2 => exact kit_own icBC tyBC sBMBC sBMBM
    | 3, 3 => exact kit_own icBM tyBM sBMBM sBMBM
  have RR : Erw K mg CE BH BT BC BM := ⟨PySem.W.mg_of X G aCCE, PySem.W.mg_of X G aCBH, PySem.W.mg_of X G aCBT, PySem.W.mg_of X G aCBC, PySem.W.mg_of X G aCBM, hec, hem, hkt⟩
  obtain ⟨d1, hf1⟩ := find_of hrec1
  obtain ⟨ch1, tt1⟩ := PySem.W.tab_of TT X hf1 (tabIn_of a20 l20 hcd1 lk1 hx1)
  have nn1 := noTab_none X hnt tt1
  obtain ⟨d2, hf2⟩ := find_of hrec2
  obtain ⟨ch2, tt2⟩ := PySem.W.tab_of TT X hf2 (tabIn_of a23 l23 hcd2 lk2 hx2)
  have nn2 := noTab_none X hnt tt2
  refine ⟨PySem.W.fnOf "law" "law" (defArgs s_law) (defBody s_law) (defScope s_law) .none kV28 dc28 pm28 an28 cd28 ct28, [(tc1, tP1), (tc2, tP2)], sp_law K tP1 tP2, forall2 tt1 tt2, forall2 nn1 nn2, forall2 ch1 ch2, fun s v => .of_eq rfl, fun H a ns hl _ hH hS => ⟨a, ns, rfl, hS, forall2 (LamX.TabS.nil (hH _ (.head _))) (LamX.TabS.nil (hH _ (.tail _ (.head _)))), fun _ => rfl⟩, fun base _ _ hTB => ?_⟩
  have TB1 := hTB _ (.head _)
  have TB2 := hTB _ (.tail _ (.head _))
  have c_is_number := cal_of (P := l.prog) (w := w) (base := base) F0 (ok_is_number T F0) (PySem.W.mg_of X G a0) B0
  have c_check_heaps := calX_of (P := l.prog) (w := w) (base := base) F1 (ok_check_heaps T x_BadHeaps F1 c_is_number) (PySem.W.mg_of X G a1) B1
  have c_turn_of := cal_of (P := l.prog) (w := w) (base := base) F2 (ok_turn_of T F2) (PySem.W.mg_of X G a2) B2
  have c_turned := calX_of (P := l.prog) (w := w) (base := base) F3 (ok_turned T F3 c_check_heaps c_turn_of) (PySem.W.mg_of X G a3) B3
  have c_stairs_of := cal_of (P := l.prog) (w := w) (base := base) F4 (ok_stairs_of T F4) (PySem.W.mg_of X G a4) B4
  have c_marks_of := cal_of (P := l.prog) (w := w) (base := base) F5 (ok_marks_of T F5 c_stairs_of) (PySem.W.mg_of X G a5) B5
  have c_standing := cal_of (P := l.prog) (w := w) (base := base) F6 (ok_standing T F6) (PySem.W.mg_of X G a6) B6
  have c_turns_to := cal_of (P := l.prog) (w := w) (base := base) F7 (ok_turns_to T F7 c_marks_of c_turn_of) (PySem.W.mg_of X G a7) B7
  have c_ahead := calX_of (P := l.prog) (w := w) (base := base) F8 (ok_ahead T F8 c_check_heaps) (PySem.W.mg_of X G a8) B8
  have c_length := calX_of (P := l.prog) (w := w) (base := base) F9 (ok_length T F9 c_check_heaps c_marks_of c_turn_of c_turns_to) (PySem.W.mg_of X G a9) B9
  have c_behind := calX_of (P := l.prog) (w := w) (base := base) F10 (ok_behind T x_BadTurns F10 c_is_number c_check_heaps c_turn_of c_marks_of c_standing) (PySem.W.mg_of X G a10) B10
  have m_Round : CMk l.prog w K mg base 1 "Round" R _ := ⟨⟨f11, _, _, ok_Round___init__ T C F11, ⟨mkR, a11, i11, kcR⟩, PySem.W.mg_of X G aCR, B11⟩⟩
  have m_Straight : CMk l.prog w K mg base 1 "Straight" S _ := ⟨⟨f12, _, _, ok_Straight___init__ T C F12, ⟨mkS, a12, i12, kcS⟩, PySem.W.mg_of X G aCS, B12⟩⟩
  have t_Round_shows : CMt l.prog w K mg base 3 R "shows" _ := ⟨⟨f13, _, _, ok_Round_shows T C F13 c_is_number c_marks_of, ⟨a13, i13, k13⟩, ⟨pgR, hdR, poR, saR⟩, B13⟩⟩
  have t_Straight_shows : CMt l.prog w K mg base 4 S "shows" _ := ⟨⟨f14, _, _, ok_Straight_shows T C F14 c_is_number c_marks_of c_turns_to, ⟨a14, i14, k14⟩, ⟨pgS, hdS, poS, saS⟩, B14⟩⟩
  have c_told := calX_of (P := l.prog) (w := w) (base := base) F15 (ok_told T C F15 m_Round m_Straight c_check_heaps c_marks_of c_turns_to) (PySem.W.mg_of X G a15) B15
  have c_common := cal_of (P := l.prog) (w := w) (base := base) F16 (ok_common T F16) (PySem.W.mg_of X G a16) B16
  have c_picks := cal_of (P := l.prog) (w := w) (base := base) F17 (ok_picks T F17) (PySem.W.mg_of X G a17) B17
  have c_rounds := calX_of (P := l.prog) (w := w) (base := base) F18 (ok_rounds T x_BadCards F18 c_is_number c_stairs_of c_common c_picks) (PySem.W.mg_of X G a18) B18
  have c_heaps_of := calX_of (P := l.prog) (w := w) (base := base) F19 (ok_heaps_of T x_BadMarks F19 c_is_number c_standing) (PySem.W.mg_of X G a19) B19
  have c__law_doors := cal_of (P := l.prog) (w := w) (base := base) F20 (ok__law_doors T F20 hcd1 TB1 tne) (PySem.W.mg_of X G a20) B20
  have AKw : Asw l.prog w K mg base BH := ⟨fun _ h => by obtain ⟨i, rfl⟩ := h; exact ref_D T c_turned c_behind c_ahead c_told c_length i⟩
  have c__law_refused := cal_of (P := l.prog) (w := w) (base := base) F21 (ok__law_refused T RR AKw F21) (PySem.W.mg_of X G a21) B21
  have c__law_spoiled := cal_of (P := l.prog) (w := w) (base := base) F22 (ok__law_spoiled T F22) (PySem.W.mg_of X G a22) B22
  have c__law_bad_right := cal_of (P := l.prog) (w := w) (base := base) F23 (ok__law_bad_right T RR F23 hcd2 TB2 tne F21 (PySem.W.mg_of X G a21) B21 c__law_refused c__law_doors c__law_spoiled c_behind c_heaps_of c_length c_rounds) (PySem.W.mg_of X G a23) B23
  have c__law_sound := cal_of (P := l.prog) (w := w) (base := base) F24 (ok__law_sound T F24) (PySem.W.mg_of X G a24) B24
  have c__law_told_right := cal_of (P := l.prog) (w := w) (base := base) F25 (ok__law_told_right T C F25 c_turned c_behind c_ahead c_length c_rounds c__law_sound) (PySem.W.mg_of X G a25) B25
  have c__law_changed_right := cal_of (P := l.prog) (w := w) (base := base) F26 (ok__law_changed_right T C D F26 t_Round_shows t_Straight_shows c_turned c_told c_length c__law_told_right) (PySem.W.mg_of X G a26) B26
  have c__law_hand_right := cal_of (P := l.prog) (w := w) (base := base) F27 (ok__law_hand_right T C D F27 m_Round m_Straight t_Round_shows t_Straight_shows c_rounds) (PySem.W.mg_of X G a27) B27
  exact ok_law T F28 c__law_bad_right c__law_changed_right c__law_hand_right c_behind
end Cw
open PySem PySem.W PyProof.Rows
set_option maxHeartbeats 0 in
theorem PySem.Challenge.cw_cardheaps_k08_one_reason_holds : PySem.Challenge.rw_cardheaps_k08_one_reason.Holds := by
  w_on; o_law; k_head; (case hw => w_witness2)
  k_fill
  refine L2.walk_lam (l := PySem.Challenge.rw_cardheaps_k08_one_reason) (n := 63) (k := 8) (x := "_law_script") rfl (by decide) rfl ⟨rfl, by decide, by decide⟩ (fun w h Y => PySem.W.km_in_of Y) ?F
  case F =>
    intro w mean mg mb fa h KX TT hmg
    refine' Cw.all_mk KX TT hmg ?aCR ?pgR ?hdR ?poR ?saR ?mkR ?kcR ?noR_stairs ?noR_marks ?aCS ?pgS ?hdS ?poS ?saS ?mkS ?kcS ?noS_turns ?aCAA ?ocn ?oct ?tyR0 ?tyR1 ?tyS0 ?tyS1 ?icR ?tpR ?icS ?tpS ?icAA ?tpAA ?sRAA ?sRR ?sRS ?sSAA ?sSR ?sSS ?aCCE ?bsCE ?hdCE ?tyCE ?aCBH ?exBH ?kpBH ?bsBH ?tyBH ?hgBH ?hkBH ?hdBH ?haBH ?hmBH ?icBH ?sEBH ?aCBT ?exBT ?kpBT ?bsBT ?tyBT ?hgBT ?hkBT ?hdBT ?haBT ?hmBT ?icBT ?sEBT ?aCBC ?exBC ?kpBC ?bsBC ?tyBC ?hgBC ?hkBC ?hdBC ?haBC ?hmBC ?icBC ?sEBC ?aCBM ?exBM ?kpBM ?bsBM ?tyBM ?hgBM ?hkBM ?hdBM ?haBM ?hmBM ?icBM ?sEBM ?sBHBH ?sBHBT ?sBHBC ?sBHBM ?sBTBH ?sBTBT ?sBTBC ?sBTBM ?sBCBH ?sBCBT ?sBCBC ?sBCBM ?sBMBH ?sBMBT ?sBMBC ?sBMBM ?a0 ?l0 ?q0 ?k0 ?a1 ?l1 ?q1 ?k1 ?a2 ?l2 ?q2 ?k2 ?a3 ?l3 ?q3 ?k3 ?a4 ?l4 ?q4 ?k4 ?a5 ?l5 ?q5 ?k5 ?a6 ?l6 ?q6 ?k6 ?a7 ?l7 ?q7 ?k7 ?a8 ?l8 ?q8 ?k8 ?a9 ?l9 ?q9 ?k9 ?a10 ?l10 ?q10 ?k10 ?a11 ?i11 ?l11 ?q11 ?k11 ?a12 ?i12 ?l12 ?q12 ?k12 ?a13 ?i13 ?l13 ?q13 ?k13 ?a14 ?i14 ?l14 ?q14 ?k14 ?a15 ?l15 ?q15 ?k15 ?a16 ?l16 ?q16 ?k16 ?a17 ?l17 ?q17 ?k17 ?a18 ?l18 ?q18 ?k18 ?a19 ?l19 ?q19 ?k19 ?a20 ?l20 ?q20 ?k20 ?a21 ?l21 ?q21 ?k21 ?a22 ?l22 ?q22 ?k22 ?a23 ?l23 ?q23 ?k23 ?a24 ?l24 ?q24 ?k24 ?a25 ?l25 ?q25 ?k25 ?a26 ?l26 ?q26 ?k26 ?a27 ?l27 ?q27 ?k27 ?a28 ?l28 ?q28 ?k28 ?z0 ?z1 ?z2 ?z3 ?z4 ?z5 ?z6 ?z7 ?z8 ?z9 ?z10 ?z11 ?z12 ?z13 ?z14 ?z15 ?y0 ?y1 ?hrec1 ?hrec2 ?hnt ?hcd1 ?lk1 ?hx1 ?hcd2 ?lk2 ?hx2 ?tne
    (case aCR => k_is); (case pgR => k_is); (case hdR => k_is); (case poR => k_is); (case saR => k_is); (case mkR => k_is); (case kcR => k_is); (case noR_stairs => k_is)
    (case noR_marks => k_is); (case aCS => k_is); (case pgS => k_is); (case hdS => k_is); (case poS => k_is); (case saS => k_is); (case mkS => k_is); (case kcS => k_is)
    (case noS_turns => k_is); (case aCAA => k_is); (case ocn => k_is); (case oct => k_is); (case tyR0 => k_is); (case tyR1 => k_is); (case tyS0 => k_is); (case tyS1 => k_is)
    (case icR => k_is); (case tpR => k_is); (case icS => k_is); (case tpS => k_is); (case icAA => k_is); (case tpAA => k_is); (case sRAA => k_is); (case sRR => k_is)
    (case sRS => k_is); (case sSAA => k_is); (case sSR => k_is); (case sSS => k_is); (case aCCE => k_is); (case bsCE => k_is); (case hdCE => k_is); (case tyCE => k_is)
    (case aCBH => k_is); (case exBH => k_exc); (case kpBH => k_is); (case bsBH => k_is); (case tyBH => k_is); (case hgBH => k_is); (case hkBH => k_is); (case hdBH => k_is)
    (case haBH => k_is); (case hmBH => k_is); (case icBH => k_is); (case sEBH => k_is); (case aCBT => k_is); (case exBT => k_exc); (case kpBT => k_is); (case bsBT => k_is)
    (case tyBT => k_is); (case hgBT => k_is); (case hkBT => k_is); (case hdBT => k_is); (case haBT => k_is); (case hmBT => k_is); (case icBT => k_is); (case sEBT => k_is)
    (case aCBC => k_is); (case exBC => k_exc); (case kpBC => k_is); (case bsBC => k_is); (case tyBC => k_is); (case hgBC => k_is); (case hkBC => k_is); (case hdBC => k_is)
    (case haBC => k_is); (case hmBC => k_is); (case icBC => k_is); (case sEBC => k_is); (case aCBM => k_is); (case exBM => k_exc); (case kpBM => k_is); (case bsBM => k_is)
    (case tyBM => k_is); (case hgBM => k_is); (case hkBM => k_is); (case hdBM => k_is); (case haBM => k_is); (case hmBM => k_is); (case icBM => k_is); (case sEBM => k_is)
    (case sBHBH => first | rfl | k_is); (case sBHBT => first | rfl | k_is); (case sBHBC => first | rfl | k_is); (case sBHBM => first | rfl | k_is); (case sBTBH => first | rfl | k_is); (case sBTBT => first | rfl | k_is); (case sBTBC => first | rfl | k_is); (case sBTBM => first | rfl | k_is)
    (case sBCBH => first | rfl | k_is); (case sBCBT => first | rfl | k_is); (case sBCBC => first | rfl | k_is); (case sBCBM => first | rfl | k_is); (case sBMBH => first | rfl | k_is); (case sBMBT => first | rfl | k_is); (case sBMBC => first | rfl | k_is); (case sBMBM => first | rfl | k_is)
    (case a0 => k_is); (case l0 => k_is); (case q0 => k_is); (case k0 => k_is); (case a1 => k_is); (case l1 => k_is); (case q1 => k_is); (case k1 => k_is)
    (case a2 => k_is); (case l2 => k_is); (case q2 => k_is); (case k2 => k_is); (case a3 => k_is); (case l3 => k_is); (case q3 => k_is); (case k3 => k_is)
    (case a4 => k_is); (case l4 => k_is); (case q4 => k_is); (case k4 => k_is); (case a5 => k_is); (case l5 => k_is); (case q5 => k_is); (case k5 => k_is)
    (case a6 => k_is); (case l6 => k_is); (case q6 => k_is); (case k6 => k_is); (case a7 => k_is); (case l7 => k_is); (case q7 => k_is); (case k7 => k_is)
    (case a8 => k_is); (case l8 => k_is); (case q8 => k_is); (case k8 => k_is); (case a9 => k_is); (case l9 => k_is); (case q9 => k_is); (case k9 => k_is)
    (case a10 => k_is); (case l10 => k_is); (case q10 => k_is); (case k10 => k_is); (case a11 => k_is); (case i11 => k_is); (case l11 => k_is); (case q11 => k_is)
    (case k11 => k_is); (case a12 => k_is); (case i12 => k_is); (case l12 => k_is); (case q12 => k_is); (case k12 => k_is); (case a13 => k_is); (case i13 => k_is)
    (case l13 => k_is); (case q13 => k_is); (case k13 => k_is); (case a14 => k_is); (case i14 => k_is); (case l14 => k_is); (case q14 => k_is); (case k14 => k_is)
    (case a15 => k_is); (case l15 => k_is); (case q15 => k_is); (case k15 => k_is); (case a16 => k_is); (case l16 => k_is); (case q16 => k_is); (case k16 => k_is)
    (case a17 => k_is); (case l17 => k_is); (case q17 => k_is); (case k17 => k_is); (case a18 => k_is); (case l18 => k_is); (case q18 => k_is); (case k18 => k_is)
    (case a19 => k_is); (case l19 => k_is); (case q19 => k_is); (case k19 => k_is); (case a20 => k_is); (case l20 => k_is); (case q20 => k_is); (case k20 => k_is)
    (case a21 => k_is); (case l21 => k_is); (case q21 => k_is); (case k21 => k_is); (case a22 => k_is); (case l22 => k_is); (case q22 => k_is); (case k22 => k_is)
    (case a23 => k_is); (case l23 => k_is); (case q23 => k_is); (case k23 => k_is); (case a24 => k_is); (case l24 => k_is); (case q24 => k_is); (case k24 => k_is)
    (case a25 => k_is); (case l25 => k_is); (case q25 => k_is); (case k25 => k_is); (case a26 => k_is); (case l26 => k_is); (case q26 => k_is); (case k26 => k_is)
    (case a27 => k_is); (case l27 => k_is); (case q27 => k_is); (case k27 => k_is); (case a28 => k_is); (case l28 => k_is); (case q28 => k_is); (case k28 => k_is)
    (case z0 => k_is); (case z1 => k_is); (case z2 => k_is); (case z3 => k_is); (case z4 => k_is); (case z5 => k_is); (case z6 => k_is); (case z7 => k_is)
    (case z8 => k_is); (case z9 => k_is); (case z10 => k_is); (case z11 => k_is); (case z12 => k_is); (case z13 => k_is); (case z14 => k_is); (case z15 => k_is)
    (case y0 => k_is); (case y1 => k_is); (case hrec1 => first | rfl | decide +kernel); (case hrec2 => first | rfl | decide +kernel); (case hnt => first | rfl | decide +kernel); (case hcd1 => rfl); (case lk1 => k_is); (case hx1 => rfl)
    (case hcd2 => rfl); (case lk2 => k_is); (case hx2 => rfl); (case tne => decide)
