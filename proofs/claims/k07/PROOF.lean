import PyProof.Rows.All
import Wide.All
import OpenK.AllK
import Wide.FinOn
import HandS.ForMost
import HandS.Evl
import HandS.IsInst
import HandS.StrMore
import HandS.SortInts
import HandS.Walk
import HandS.EndBits
import KE.KEqDeep
import KE.Datum
import HandS.SetFor
import HandS.Strs
import HandS.Set
import PyProof.Rows.SortShellAny
import HandS.Style
import HandS.Conv
import HandS.ForExc
import HandS.ExcIs
import PySem.Challenge.RW_allknown_k07_whole_numbers
set_option Elab.async false
set_option linter.all false
set_option maxRecDepth 100000
set_option maxHeartbeats 4000000
namespace L2
open PySem PySem.Spec PyProof.Rows
/-- a text's signs, each in a new pair with its place -/
def Ites (x : Str) : It :=
  ⟨fun i _ => i < x.cps.size, fun i H v H' => ∃ T c, v = .ref T ∧ H T = none ∧ H' = upd H T (.tup [.int (i : Nat), .str ⟨#[c]⟩]) ∧ x.cps[i]? = some c, fun i _ => i = x.cps.size⟩
theorem draws_str {P : Program} {w : World} {A : Around} (hh : A.handled = none) (it : Addr) (x : Str) (t : Tok) (ty : String) (hty : ty = "str_ascii_iterator" ∨ ty = "str_iterator") :
    Draws P w A.in1 it [it] x.cps.size (fun i v => ∃ c u, x.cps[i]? = some c ∧ v = .str ⟨#[c]⟩ u) (fun i h => h.IsStrIter it ty x t i) := by
  rcases hty with e | e
  · rw [e]; exact Draws.strAscii (A := A.in1) hh it x t
  · rw [e]; exact Draws.strWide (A := A.in1) hh it x t
theorem turn_enumS {P : Program} {w : World} {K : PySem.W.Frag} {elts : List Expr} {kk : Nat} {tpos : Pos} (e it : Addr) (x : Str) (t : Tok) (ty : String) (hty : ty = "str_ascii_iterator" ∨ ty = "str_iterator") :
    Turn P w K (.Tuple elts kk tpos) (Ites x) [e, it] e (fun i h => (∃ old, IsEnum h e it ((i : Nat) : Int) old) ∧ h.IsStrIter it ty x t i ∧ e ≠ it) where
  mem := by simp
  obj := fun i h st b hb => by
    obtain ⟨⟨old, he⟩, ⟨o, ho, hc, hd⟩, _⟩ := st
    have e' : b = e ∨ b = it := by simpa using hb
    rcases e' with z | z
    · rw [z]; exact ⟨_, he, fun v q => nomatch q⟩
    · rw [z]; exact ⟨o, ho, fun v q => by rw [hd] at q; cases q⟩
  keep := fun i h h' st k => let ⟨⟨old, he⟩, ⟨o, ho, r⟩, hne⟩ := st; ⟨⟨old, k e (by simp) _ he⟩, ⟨o, k it (by simp) o ho, r⟩, hne⟩
  item := by
    intro X hP hw hK hc i pins s σ H E I hf st hg
    subst hP hw hK
    obtain ⟨⟨old, he⟩, hit, hne⟩ := st
    have hel : e < s.heap.objs.size := Heap.lt_size he
    have hil : it < s.heap.objs.size := by obtain ⟨_, q, _⟩ := hit; exact Heap.lt_size q
    refine wpAny_pyNext_enum_itemD (draws_str (I.ok.hd hc) it x t ty hty) he hit hg hne (by simpa using hne) fun u h' tk hP ho hit' hT hsz hk => ?_
    obtain ⟨c, uu, hcx, rfl⟩ := hP
    refine ⟨_, rfl, wpAny_letOwnedTupleGo_enum (s := { s with heap := h', toks := tk + 1 }) ho fun h'' he' sb => ?_⟩
    have hT2 : h''.get? s.heap.objs.size = some { cls := .type "tuple", data := .seq #[.int i tk, .str ⟨#[c]⟩ uu] } := (sb.2 _ (Nat.ne_of_gt hel)).trans hT
    have new : ObjOk X.prog X.w (upd H s.heap.objs.size (.tup [.int (i : Nat), .str ⟨#[c]⟩])) h'' s.heap.objs.size (.tup [.int (i : Nat), .str ⟨#[c]⟩]) :=
      ⟨by show 2 ≤ sizeLine; decide, [.int i tk, .str ⟨#[c]⟩ uu], .cons ⟨_, rfl⟩ (.cons ⟨_, rfl⟩ .nil), ⟨_, hT2, rfl, _, rfl⟩⟩
    have I1 : Inv X pins σ (upd H s.heap.objs.size (.tup [.int (i : Nat), .str ⟨#[c]⟩])) { s with heap := h'', toks := tk + 1 } :=
      I.turnedNew (ch := [e, it]) (fun b ob hb q => (sb.2 b (fun z => hb (by simp [z]))).trans (hk b ob (fun z => hb (by simp [z])) (fun z => hb (by simp [z])) q)) hf (Nat.le_refl _) new
    refine ⟨.ref s.heap.objs.size, _, I1, rfl, ⟨_, c, rfl, I.hok.fresh (Nat.le_refl _), rfl, hcx⟩, ⟨⟨Value.str ⟨#[c]⟩ uu, ?_⟩, ?_, hne⟩, fun b hb => ?_⟩
    · have e1 : ((i + 1 : Nat) : Int) = (i : Int) + 1 := by omega
      rw [e1]; exact he'
    · obtain ⟨o, q, r⟩ := hit'
      exact ⟨o, (sb.2 it (Ne.symm hne)).trans q, r⟩
    · have hb' : b < s.heap.objs.size := by
        have e' : b = e ∨ b = it := by simpa using hb
        rcases e' with z | z
        · rw [z]; exact hel
        · rw [z]; exact hil
      rw [upd_ne (Nat.ne_of_lt hb')]
      exact (hf b hb).1
  done := by
    intro X hP hw hK hc i pins s σ H E I hf st hg
    subst hP hw hK
    obtain ⟨⟨old, he⟩, hit, hne⟩ := st
    obtain ⟨f0, f1, f2, f3, f4, f5⟩ := hf it (by simp)
    have D := draws_str (P := X.prog) (w := X.w) (A := X.A) (I.ok.hd hc) it x t ty hty
    have hg : i = x.cps.size := hg
    subst hg
    exact wpAny_pyNext_enum_endD D he hit fun h' eb => ⟨rfl, I.turned (t' := s.toks) (fun b o hb q => eb b o hb q) f0 f1 f3 f4 f5⟩
  self := fun A i s Q E st h => let ⟨⟨_, he⟩, _⟩ := st; wpAny_pyIter_enum he h
def iEnumS (ta : TA) : TI := fun σ H R => ta σ H fun vs H1 => ∃ x, vs = [.str x] ∧ R (Ites x) H1
theorem pi_enumS {X : Cx} {e : Expr} {ta : TA} {p pos tpos : Pos} {elts : List Expr} {kk : Nat} (hg : Gl X "enumerate") (hm : X.mg "enumerate" = none) (ha : PA X [e] ta) (hs : starEach [e] X.env = [(false, eval e X.env)] := by rfl) :
    PI X (.Tuple elts kk tpos) (.Call (.Name "enumerate" p) [e] [] pos) (iEnumS ta) := by
  refine ⟨fun pins s σ H R I h => ?_⟩
  refine Call_ (ld_blt I hg hm boot_enumerate (PyProof.Rows.callWith_type1 (thn (ha.run pos pins s σ H _ I h) fun us s1 ⟨vs, H1, I1, r1, q1⟩ => ?_) hs rfl))
  obtain ⟨x, ex, q⟩ := q1
  subst ex
  cases r1 with
  | cons r rr =>
    cases rr
    obtain ⟨t, rfl⟩ := r
    refine call_enumerate_str fun h' he hit hsz hk => wpAny_pyIter_enum he ?_
    have I2 : Inv X pins σ H1 { s1 with heap := h' } := I1.kept (t' := s1.toks) hk
    have hty : strIterType x = "str_ascii_iterator" ∨ strIterType x = "str_iterator" := by
      unfold strIterType
      split
      · exact .inl rfl
      · exact .inr rfl
    refine ⟨s1.heap.objs.size + 1, [s1.heap.objs.size + 1, s1.heap.objs.size], _, _, H1, rfl, I2, turn_enumS (s1.heap.objs.size + 1) s1.heap.objs.size x t (strIterType x) hty, ⟨⟨.none, he⟩, hit, Nat.succ_ne_self _⟩, fun b hb => ?_, q⟩
    have e' : b = s1.heap.objs.size + 1 ∨ b = s1.heap.objs.size := by simpa using hb
    have hle : s1.heap.objs.size ≤ b := by
      rcases e' with z | z
      · rw [z]; exact Nat.le_add_right _ _
      · rw [z]; exact Nat.le_refl _
    exact I1.fpOk hle (I1.hok.fresh hle)
theorem walk_enumS {x : Str} : Walk (Ites x) x.cps.size (fun _ => True) (YPair (fun i => some (.int (i : Nat))) (fun i => x.cps[i]?.map fun c => V.str ⟨#[c]⟩)) := by
  refine ⟨fun i _ hi _ => hi, fun _ _ => rfl, fun i H v H' _ _ y => ?_⟩
  obtain ⟨T, c, h1, h2, h3, h4⟩ := y
  exact ⟨T, .int (i : Nat), _, h1, h2, h3, rfl, by show Option.map (fun c => V.str ⟨#[c]⟩) x.cps[i]? = _; rw [h4]; rfl⟩
end L2

/-! Ak: sums, webs, Goodman's count of the threes that are alike. Plain Lean. -/
namespace Ak
/-- sums of f below n -/
def sm : Nat → (Nat → Int) → Int
  | 0, _ => 0
  | n + 1, f => sm n f + f n
theorem sm_congr : ∀ {n : Nat} {f g : Nat → Int}, (∀ i, i < n → f i = g i) → sm n f = sm n g
  | 0, _, _, _ => rfl
  | n + 1, f, g, h => by
    show sm n f + f n = sm n g + g n
    rw [sm_congr (n := n) fun i hi => h i (by omega), h n (by omega)]
theorem sm_add : ∀ (n : Nat) (f g : Nat → Int), sm n (fun i => f i + g i) = sm n f + sm n g
  | 0, _, _ => rfl
  | n + 1, f, g => by
    show sm n (fun i => f i + g i) + (f n + g n) = (sm n f + f n) + (sm n g + g n)
    rw [sm_add n f g]; omega
theorem sm_sub : ∀ (n : Nat) (f g : Nat → Int), sm n (fun i => f i - g i) = sm n f - sm n g
  | 0, _, _ => rfl
  | n + 1, f, g => by
    show sm n (fun i => f i - g i) + (f n - g n) = (sm n f + f n) - (sm n g + g n)
    rw [sm_sub n f g]; omega
theorem sm_mul (c : Int) : ∀ (n : Nat) (f : Nat → Int), sm n (fun i => c * f i) = c * sm n f
  | 0, _ => by simp [sm]
  | n + 1, f => by
    show sm n (fun i => c * f i) + c * f n = c * (sm n f + f n)
    rw [sm_mul c n f, Int.mul_add]
theorem sm_const (c : Int) : ∀ n : Nat, sm n (fun _ => c) = n * c
  | 0 => by simp [sm]
  | n + 1 => by
    show sm n (fun _ => c) + c = ((n + 1 : Nat) : Int) * c
    rw [sm_const c n]; grind
theorem sm_le : ∀ {n : Nat} {f g : Nat → Int}, (∀ i, i < n → f i ≤ g i) → sm n f ≤ sm n g
  | 0, _, _, _ => Int.le_refl _
  | n + 1, f, g, h => by
    have h1 := sm_le (n := n) fun i hi => h i (by omega)
    have h2 := h n (by omega)
    show sm n f + f n ≤ sm n g + g n
    omega
theorem sm_nn {n : Nat} {f : Nat → Int} (h : ∀ i, i < n → 0 ≤ f i) : 0 ≤ sm n f := by
  have := sm_le (n := n) (f := fun _ => 0) (g := f) h
  rw [sm_const] at this; omega
theorem sm_zero_iff : ∀ {n : Nat} {f : Nat → Int}, (∀ i, i < n → 0 ≤ f i) → (sm n f = 0 ↔ ∀ i, i < n → f i = 0)
  | 0, _, _ => ⟨fun _ i hi => absurd hi (by omega), fun _ => rfl⟩
  | n + 1, f, h => by
    have ih := sm_zero_iff (n := n) fun i hi => h i (by omega)
    have h1 := sm_nn (n := n) fun i hi => h i (by omega)
    have h2 := h n (by omega)
    show sm n f + f n = 0 ↔ _
    constructor
    · intro e i hi
      by_cases hin : i = n
      · subst hin; omega
      · exact ih.mp (by omega) i (by omega)
    · intro e
      have e1 := ih.mpr fun i hi => e i (by omega)
      have e2 := e n (by omega)
      omega
theorem sm_shift : ∀ (n : Nat) (f : Nat → Int), sm (n + 1) f = f 0 + sm n (fun i => f (i + 1))
  | 0, f => by simp [sm]
  | n + 1, f => by
    show sm (n + 1) f + f (n + 1) = f 0 + (sm n (fun i => f (i + 1)) + f (n + 1))
    rw [sm_shift n f]; omega
theorem sm_rev : ∀ (n : Nat) (f : Nat → Int), sm n (fun i => f (n - 1 - i)) = sm n f
  | 0, _ => rfl
  | n + 1, f => by
    rw [sm_shift]
    show f (n + 1 - 1 - 0) + _ = sm n f + f n
    have e : sm n (fun i => f (n + 1 - 1 - (i + 1))) = sm n (fun i => f (n - 1 - i)) := sm_congr fun i hi => by
      congr 1; omega
    rw [e, sm_rev n f]
    simp only [Nat.add_sub_cancel, Nat.sub_zero]; omega
theorem sm_swap : ∀ (m n : Nat) (f : Nat → Nat → Int), sm m (fun i => sm n (fun j => f i j)) = sm n (fun j => sm m (fun i => f i j))
  | 0, n, f => by
    show 0 = sm n (fun _ => 0)
    rw [sm_const]; omega
  | m + 1, n, f => by
    show sm m (fun i => sm n (fun j => f i j)) + sm n (fun j => f m j) = sm n (fun j => sm m (fun i => f i j) + f m j)
    rw [sm_swap m n f, sm_add]
def b2 (b : Bool) : Int := if b then 1 else 0
theorem b2_nn (b : Bool) : 0 ≤ b2 b := by cases b <;> decide
theorem b2_le (b : Bool) : b2 b ≤ 1 := by cases b <;> decide
theorem b2_not (b : Bool) : b2 (!b) = 1 - b2 b := by cases b <;> rfl
theorem b2_zero {b : Bool} : b2 b = 0 ↔ b = false := by cases b <;> simp [b2]

abbrev Rel := Nat → Nat → Bool
structure IsW (n : Nat) (k : Rel) : Prop where
  sym : ∀ i j, i < n → j < n → k i j = k j i
  irr : ∀ i, i < n → k i i = false
/-- the web of those who don't -/
def turn (k : Rel) : Rel := fun i j => !(k i j || decide (j = i))
theorem IsW.turn {n : Nat} {k : Rel} (h : IsW n k) : IsW n (turn k) := by
  refine ⟨fun i j hi hj => ?_, fun i _ => ?_⟩
  · show (!(k i j || decide (j = i))) = !(k j i || decide (i = j))
    rw [h.sym i j hi hj]
    by_cases e : j = i
    · subst e; rfl
    · have e' : ¬ i = j := fun z => e z.symm
      simp [e, e']
  · show (!(k i i || decide (i = i))) = false
    simp
theorem turn_turn {n : Nat} {k : Rel} (h : IsW n k) {i j : Nat} (hi : i < n) (_ : j < n) : Ak.turn (Ak.turn k) i j = k i j := by
  show (!((!(k i j || decide (j = i))) || decide (j = i))) = k i j
  by_cases e : j = i
  · subst e; simp [h.irr _ hi]
  · simp [e]
/-- how many one knows -/
def deg (n : Nat) (k : Rel) (i : Nat) : Int := sm n fun j => b2 (k i j)
def mixed (n : Nat) (k : Rel) : Int := sm n fun i => deg n k i * ((n : Int) - 1 - deg n k i)
/-- threes who all know one another -/
def threes (n : Nat) (k : Rel) : Int := sm n fun a => sm a fun b => sm b fun c => b2 (k a b && (k a c && k b c))
def alikeN (n : Nat) (k : Rel) : Int := threes n k + threes n (turn k)
def n3 (n : Nat) : Int := sm n fun a => sm a fun b => (b : Int)

theorem offdiag (g : Nat → Nat → Int) : ∀ n : Nat, sm n (fun v => sm n fun c => if c = v then 0 else g v c) = sm n fun b => sm b fun c => g b c + g c b
  | 0 => rfl
  | n + 1 => by
    have ih := offdiag g n
    show sm n (fun v => sm n (fun c => if c = v then 0 else g v c) + (if n = v then 0 else g v n)) + (sm n (fun c => if c = n then 0 else g n c) + (if n = n then 0 else g n n)) = sm n (fun b => sm b fun c => g b c + g c b) + sm n fun c => g n c + g c n
    rw [sm_add, ih, sm_add n (fun c => g n c) (fun c => g c n)]
    have e1 : sm n (fun v => if n = v then 0 else g v n) = sm n (fun c => g c n) := sm_congr fun i hi => by rw [if_neg (by omega)]
    have e2 : sm n (fun c => if c = n then 0 else g n c) = sm n (fun c => g n c) := sm_congr fun i hi => by rw [if_neg (by omega)]
    rw [e1, e2, if_pos rfl]; omega
/-- angles at v -/
def ang (h : Nat → Nat → Nat → Int) (n v : Nat) : Int := sm n fun b => if b = v then 0 else sm b fun c => if c = v then 0 else h v b c
theorem ang_succ (h : Nat → Nat → Nat → Int) (n v : Nat) (hv : v < n) : ang h (n + 1) v = ang h n v + sm n (fun c => if c = v then 0 else h v n c) := by
  show sm n _ + (if n = v then 0 else _) = _
  rw [if_neg (by omega)]; rfl
theorem ang_top (h : Nat → Nat → Nat → Int) (n : Nat) : ang h (n + 1) n = sm n fun b => sm b fun c => h n b c := by
  show sm n _ + (if n = n then 0 else _) = _
  rw [if_pos rfl, Int.add_zero]
  refine sm_congr fun b hb => ?_
  rw [if_neg (by omega)]
  exact sm_congr fun c hc => by rw [if_neg (by omega)]
theorem tri_ang (h : Nat → Nat → Nat → Int) : ∀ n : Nat, (sm n fun a => sm a fun b => sm b fun c => h a b c + (h b a c + h c a b)) = sm n (ang h n)
  | 0 => rfl
  | n + 1 => by
    have ih := tri_ang h n
    show (sm n fun a => sm a fun b => sm b fun c => h a b c + (h b a c + h c a b)) + (sm n fun b => sm b fun c => h n b c + (h b n c + h c n b)) = sm n (ang h (n + 1)) + ang h (n + 1) n
    have e1 : sm n (ang h (n + 1)) = sm n (ang h n) + sm n (fun v => sm n (fun c => if c = v then 0 else h v n c)) := by
      rw [← sm_add]
      exact sm_congr fun v hv => ang_succ h n v hv
    have e2 : (sm n fun b => sm b fun c => h n b c + (h b n c + h c n b)) = (sm n fun b => sm b fun c => h n b c) + (sm n fun b => sm b fun c => h b n c + h c n b) := by
      rw [← sm_add]
      exact sm_congr fun b _ => sm_add b _ _
    rw [ih, e1, e2, ang_top, offdiag (fun v c => h v n c)]
    omega
theorem pairs_row (f : Nat → Bool) (v : Nat) (x : Bool) : ∀ m : Nat, sm m (fun c => if c = v then 0 else b2 (x != f c)) = if x then sm m (fun c => if c = v then 0 else 1 - b2 (f c)) else sm m (fun c => if c = v then 0 else b2 (f c))
  | 0 => by cases x <;> rfl
  | m + 1 => by
    have ih := pairs_row f v x m
    show sm m (fun c => if c = v then 0 else b2 (x != f c)) + (if m = v then 0 else b2 (x != f m)) = if x then sm m (fun c => if c = v then 0 else 1 - b2 (f c)) + (if m = v then 0 else 1 - b2 (f m)) else sm m (fun c => if c = v then 0 else b2 (f c)) + (if m = v then 0 else b2 (f m))
    rw [ih]
    cases x <;> cases f m <;> simp [b2]
theorem pairs (f : Nat → Bool) (v : Nat) : ∀ m : Nat, (sm m fun b => if b = v then 0 else sm b fun c => if c = v then 0 else b2 (f b != f c)) = sm m (fun c => if c = v then 0 else b2 (f c)) * sm m (fun c => if c = v then 0 else 1 - b2 (f c))
  | 0 => rfl
  | m + 1 => by
    have ih := pairs f v m
    show (sm m fun b => if b = v then 0 else sm b fun c => if c = v then 0 else b2 (f b != f c)) + (if m = v then 0 else sm m fun c => if c = v then 0 else b2 (f m != f c)) =
      (sm m (fun c => if c = v then 0 else b2 (f c)) + (if m = v then 0 else b2 (f m))) * (sm m (fun c => if c = v then 0 else 1 - b2 (f c)) + (if m = v then 0 else 1 - b2 (f m)))
    rw [ih]
    by_cases e : m = v
    · rw [if_pos e, if_pos e, if_pos e]; grind
    · rw [if_neg e, if_neg e, if_neg e, pairs_row]
      cases f m <;> simp [b2] <;> grind
theorem sm_but (v : Nat) (g : Nat → Int) : ∀ n : Nat, v < n → sm n (fun c => if c = v then 0 else g c) = sm n g - g v
  | 0, h => absurd h (by omega)
  | n + 1, h => by
    show sm n (fun c => if c = v then 0 else g c) + (if n = v then 0 else g n) = (sm n g + g n) - g v
    by_cases e : n = v
    · subst e
      have : sm n (fun c => if c = n then 0 else g c) = sm n g := sm_congr fun i hi => by rw [if_neg (by omega)]
      rw [this, if_pos rfl]; omega
    · rw [sm_but v g n (by omega), if_neg e]; omega
theorem ang_deg {n : Nat} {k : Rel} (hw : IsW n k) {v : Nat} (hv : v < n) : ang (fun v b c => b2 (k v b != k v c)) n v = deg n k v * ((n : Int) - 1 - deg n k v) := by
  have e := pairs (k v) v n
  have e1 := sm_but v (fun c => b2 (k v c)) n hv
  have e2 := sm_but v (fun c => 1 - b2 (k v c)) n hv
  have e0 : b2 (k v v) = 0 := by rw [hw.irr v hv]; rfl
  have e3 : sm n (fun c => 1 - b2 (k v c)) = n - deg n k v := by
    rw [sm_sub, sm_const]
    show (n : Int) * 1 - deg n k v = n - deg n k v
    omega
  have e4 : sm n (fun c => b2 (k v c)) = deg n k v := rfl
  show (sm n fun b => if b = v then 0 else sm b fun c => if c = v then 0 else b2 (k v b != k v c)) = _
  rw [e, e1, e2, e3, e4]
  simp only [e0]
  congr 1
  · omega
  · omega
theorem one_three (x y z : Bool) : 2 * (b2 (x && (y && z)) + b2 ((!x) && ((!y) && (!z)))) + (b2 (x != y) + (b2 (x != z) + b2 (y != z))) = 2 := by
  cases x <;> cases y <;> cases z <;> rfl
theorem turn_ne {k : Rel} {i j : Nat} (h : i ≠ j) : turn k i j = !(k i j) := by
  show (!(k i j || decide (j = i))) = _
  rw [decide_eq_false (fun e => h e.symm)]; simp
theorem sm_two (n : Nat) (f g : Nat → Int) : sm n (fun i => 2 * f i + g i) = 2 * sm n f + sm n g := by
  rw [sm_add, sm_mul]
theorem goodman {n : Nat} {k : Rel} (hw : IsW n k) : 2 * alikeN n k + mixed n k = 2 * n3 n := by
  have e1 : mixed n k = sm n fun a => sm a fun b => sm b fun c => b2 (k a b != k a c) + (b2 (k b a != k b c) + b2 (k c a != k c b)) := by
    rw [tri_ang (fun v b c => b2 (k v b != k v c)) n]
    exact sm_congr fun v hv => (ang_deg hw hv).symm
  have e2 : alikeN n k = sm n fun a => sm a fun b => sm b fun c => b2 (k a b && (k a c && k b c)) + b2 ((!(k a b)) && ((!(k a c)) && (!(k b c)))) := by
    show threes n k + threes n (turn k) = _
    show (sm n fun a => sm a fun b => sm b fun c => b2 (k a b && (k a c && k b c))) + (sm n fun a => sm a fun b => sm b fun c => b2 (turn k a b && (turn k a c && turn k b c))) = _
    rw [← sm_add]
    refine sm_congr fun a _ => ?_
    rw [← sm_add]
    refine sm_congr fun b hb => ?_
    rw [← sm_add]
    refine sm_congr fun c hc => ?_
    rw [turn_ne (show a ≠ b by omega), turn_ne (show a ≠ c by omega), turn_ne (show b ≠ c by omega)]
  rw [e1, e2, ← sm_two]
  show _ = 2 * sm n fun a => sm a fun b => (b : Int)
  rw [← sm_mul]
  refine sm_congr fun a ha => ?_
  rw [← sm_two, ← sm_mul]
  refine sm_congr fun b hb => ?_
  rw [← sm_two]
  have e3 : sm b (fun _ => (2 : Int)) = 2 * (b : Int) := by rw [sm_const]; omega
  rw [← e3]
  refine sm_congr fun c hc => ?_
  rw [hw.sym b a (by omega) ha, hw.sym c a (by omega) ha, hw.sym c b (by omega) (by omega)]
  exact one_three (k a b) (k a c) (k b c)
theorem n2_eq : ∀ n : Nat, 2 * sm n (fun b => (b : Int)) = (n : Int) * (n - 1)
  | 0 => rfl
  | n + 1 => by
    have ih := n2_eq n
    show 2 * (sm n (fun b => (b : Int)) + n) = ((n + 1 : Nat) : Int) * ((n + 1 : Nat) - 1)
    grind
theorem n3_eq : ∀ n : Nat, 6 * n3 n = (n : Int) * (n - 1) * (n - 2)
  | 0 => rfl
  | n + 1 => by
    have ih := n3_eq n
    have h2 := n2_eq n
    show 6 * (n3 n + sm n (fun b => (b : Int))) = ((n + 1 : Nat) : Int) * ((n + 1 : Nat) - 1) * ((n + 1 : Nat) - 2)
    grind
/-- what alike tells -/
def alikeZ (n : Nat) (k : Rel) : Int := (n : Int) * (n - 1) * (n - 2) / 6 - mixed n k / 2
theorem alike_eq {n : Nat} {k : Rel} (hw : IsW n k) : alikeZ n k = alikeN n k := by
  have h1 := goodman hw
  have h2 := n3_eq n
  unfold alikeZ
  rw [← h2]
  omega
theorem threes_nn (n : Nat) (k : Rel) : 0 ≤ threes n k := sm_nn fun _ _ => sm_nn fun _ _ => sm_nn fun _ _ => b2_nn _
theorem threes_zero {n : Nat} {k : Rel} : threes n k = 0 ↔ ∀ a b c, a < n → b < a → c < b → ¬ (k a b = true ∧ k a c = true ∧ k b c = true) := by
  unfold threes
  rw [sm_zero_iff fun _ _ => sm_nn fun _ _ => sm_nn fun _ _ => b2_nn _]
  constructor
  · intro h a b c ha hb hc ⟨h1, h2, h3⟩
    have q := (sm_zero_iff (fun _ _ => b2_nn _)).mp ((sm_zero_iff (fun _ _ => sm_nn fun _ _ => b2_nn _)).mp (h a ha) b hb) c hc
    rw [h1, h2, h3] at q
    exact absurd q (by decide)
  · intro h a ha
    refine (sm_zero_iff (fun _ _ => sm_nn fun _ _ => b2_nn _)).mpr fun b hb => (sm_zero_iff (fun _ _ => b2_nn _)).mpr fun c hc => ?_
    rw [b2_zero]
    have q := h a b c ha hb hc
    cases h1 : k a b <;> cases h2 : k a c <;> cases h3 : k b c <;> first | rfl | exact absurd ⟨h1, h2, h3⟩ q
/-- the fewest -/
def fewestZ (n : Int) : Int :=
  if n % 2 = 0 then n * (n - 2) * (n - 4) / 24 else if n % 4 = 1 then n * (n - 1) * (n - 5) / 24 else (n + 1) * (n - 3) * (n - 4) / 24
theorem deg_nn (n : Nat) (k : Rel) (i : Nat) : 0 ≤ deg n k i := sm_nn fun _ _ => b2_nn _
theorem sq_half (u d : Int) : d * (2 * u - 1 - d) ≤ u * (u - 1) := by
  have h : 0 ≤ (u - d) * (u - 1 - d) := by
    by_cases c : d < u
    · exact Int.mul_nonneg (by omega) (by omega)
    · have := Int.mul_nonneg (show 0 ≤ d - u by omega) (show 0 ≤ d - (u - 1) by omega)
      grind
  grind
theorem sq_half2 (u d : Int) : d * (2 * u - d) ≤ u * u := by
  have h : 0 ≤ (u - d) * (u - d) := by
    by_cases c : d < u
    · exact Int.mul_nonneg (by omega) (by omega)
    · have := Int.mul_nonneg (show 0 ≤ d - u by omega) (show 0 ≤ d - u by omega)
      grind
  grind
theorem mixed_le (n : Nat) (k : Rel) (B : Int) (h : ∀ d : Int, d * ((n : Int) - 1 - d) ≤ B) : mixed n k ≤ n * B := by
  rw [← sm_const]
  exact sm_le fun i _ => h _
theorem fewest_le {n : Nat} {k : Rel} (hw : IsW n k) : fewestZ n ≤ alikeN n k := by
  have h1 := goodman hw
  have h2 := n3_eq n
  unfold fewestZ
  by_cases c0 : (n : Int) % 2 = 0
  · rw [if_pos c0]
    obtain ⟨u, hu⟩ : ∃ u : Int, (n : Int) = 2 * u := ⟨n / 2, by omega⟩
    have hm := mixed_le n k (u * (u - 1)) fun d => by rw [hu]; exact sq_half u d
    rw [hu] at hm h2 ⊢
    have key : 2 * u * (2 * u - 2) * (2 * u - 4) ≤ 24 * alikeN n k := by grind
    omega
  · rw [if_neg c0]
    by_cases c1 : (n : Int) % 4 = 1
    · rw [if_pos c1]
      obtain ⟨u, hu⟩ : ∃ u : Int, (n : Int) = 4 * u + 1 := ⟨n / 4, by omega⟩
      have hm := mixed_le n k ((2 * u) * (2 * u)) fun d => by
        have := sq_half2 (2 * u) d
        rw [hu]
        have e : (4 * u + 1 - 1 - d) = 2 * (2 * u) - d := by omega
        rw [e]; exact this
      rw [hu] at hm h2 ⊢
      have key : (4 * u + 1) * (4 * u + 1 - 1) * (4 * u + 1 - 5) ≤ 24 * alikeN n k := by grind
      omega
    · rw [if_neg c1]
      obtain ⟨u, hu⟩ : ∃ u : Int, (n : Int) = 4 * u + 3 := ⟨n / 4, by omega⟩
      have hm := mixed_le n k ((2 * u + 1) * (2 * u + 1)) fun d => by
        have := sq_half2 (2 * u + 1) d
        rw [hu]
        have e : (4 * u + 3 - 1 - d) = 2 * (2 * u + 1) - d := by omega
        rw [e]; exact this
      have hp : mixed n k ≤ n * ((2 * u + 1) * (2 * u + 1)) - 1 := by
        have odd : ((n : Int) * ((2 * u + 1) * (2 * u + 1))) % 2 = 1 := by
          obtain ⟨z, hz⟩ : ∃ z : Int, (n : Int) * ((2 * u + 1) * (2 * u + 1)) = 2 * z + 1 := ⟨8*u*u*u + 14 * u * u + 8 * u + 1, by rw [hu]; grind⟩
          omega
        omega
      rw [hu] at hp h2 ⊢
      have key : (4 * u + 3 + 1) * (4 * u + 3 - 3) * (4 * u + 3 - 4) ≤ 24 * alikeN n k := by grind
      omega
theorem fewest_pos {n : Nat} (h : 6 ≤ n) : 0 < fewestZ n := by
  unfold fewestZ
  have mono : ∀ a b c : Int, 6 ≤ a → 4 ≤ b → 1 ≤ c → 24 ≤ a * b * c := fun a b c ha hb hc => by
    have h1 : 6 * 4 ≤ a * b := Int.mul_le_mul ha hb (by omega) (by omega)
    have h2 : 24 * 1 ≤ a * b * c := Int.mul_le_mul h1 hc (by omega) (by omega)
    omega
  split
  · have := mono (n : Int) (n - 2) (n - 4) (by omega) (by omega) (by omega)
    omega
  · split
    · have := mono (n : Int) (n - 1) (n - 5) (by omega) (by omega) (by omega)
      omega
    · have := mono ((n : Int) + 1) (n - 3) (n - 4) (by omega) (by omega) (by omega)
      omega
/-- the reversed web -/
def rvs (n : Nat) (k : Rel) : Rel := fun i j => k (n - 1 - i) (n - 1 - j)
theorem rvs_w {n : Nat} {k : Rel} (h : IsW n k) : IsW n (rvs n k) :=
  ⟨fun i j hi hj => h.sym _ _ (by omega) (by omega), fun i hi => h.irr _ (by omega)⟩
theorem rvs_deg (n : Nat) (k : Rel) (i : Nat) : deg n (rvs n k) i = deg n k (n - 1 - i) :=
  sm_rev n fun j => b2 (k (n - 1 - i) j)
theorem rvs_alike (n : Nat) (k : Rel) : alikeZ n (rvs n k) = alikeZ n k := by
  have e : mixed n (rvs n k) = mixed n k := by
    unfold mixed
    rw [← sm_rev n (fun i => deg n k i * ((n : Int) - 1 - deg n k i))]
    exact sm_congr fun i _ => by rw [rvs_deg]
  unfold alikeZ
  rw [e]
theorem turn_deg {n : Nat} {k : Rel} (hw : IsW n k) {i : Nat} (hi : i < n) : deg n (turn k) i = n - 1 - deg n k i := by
  have e : deg n (turn k) i = sm n (fun c => if c = i then 0 else 1 - b2 (k i c)) := sm_congr fun c hc => by
    by_cases z : c = i
    · subst z
      rw [if_pos rfl, hw.turn.irr _ hc]; rfl
    · rw [if_neg z, turn_ne (fun q => z q.symm), b2_not]
  rw [e, sm_but i (fun c => 1 - b2 (k i c)) n hi, sm_sub, sm_const, hw.irr i hi]
  show (n : Int) * 1 - deg n k i - (1 - b2 false) = n - 1 - deg n k i
  have : b2 false = 0 := rfl
  omega
theorem turn_alike {n : Nat} {k : Rel} (hw : IsW n k) : alikeZ n (turn k) = alikeZ n k := by
  have e : mixed n (turn k) = mixed n k := by
    refine sm_congr fun i hi => ?_
    rw [turn_deg hw hi]
    grind
  unfold alikeZ
  rw [e]
theorem alikeN_zero {n : Nat} {k : Rel} : alikeN n k = 0 ↔ (∀ a b c, a < n → b < a → c < b → ¬ (k a b = true ∧ k a c = true ∧ k b c = true)) ∧ (∀ a b c, a < n → b < a → c < b → ¬ (k a b = false ∧ k a c = false ∧ k b c = false)) := by
  have h1 := threes_nn n k
  have h2 := threes_nn n (turn k)
  have e : alikeN n k = 0 ↔ threes n k = 0 ∧ threes n (turn k) = 0 := by
    unfold alikeN; omega
  rw [e, threes_zero, threes_zero]
  refine and_congr_right fun _ => ?_
  constructor
  · intro h a b c ha hb hc ⟨e1, e2, e3⟩
    refine h a b c ha hb hc ?_
    rw [turn_ne (show a ≠ b by omega), turn_ne (show a ≠ c by omega), turn_ne (show b ≠ c by omega), e1, e2, e3]
    exact ⟨rfl, rfl, rfl⟩
  · intro h a b c ha hb hc q
    rw [turn_ne (show a ≠ b by omega), turn_ne (show a ≠ c by omega), turn_ne (show b ≠ c by omega)] at q
    exact h a b c ha hb hc (by simpa using q)
end Ak

namespace AK
open PySem PySem.Spec PyProof.Rows L2 Evl Ak
abbrev St := L2.St
/-! ### defs by their names -/
/-- a def keeps a promise, called by its global name -/
def Has (P : Program) (w : World) (K : PySem.W.Frag) (mg : Str → Option Value) (base : Heap) (CX : CXT) (k : Nat) (x : Str) (ps : List Str) (sp : Sp) : Prop :=
  ∃ f fd, mg x = some (.ref f) ∧ PySem.W.keepIn K (.ref f) = true ∧ Binds K fd ps [] ∧ FnOk P w K mg base CX k f fd ps sp
/-- a def of the text stands at its global name -/
def At (K : PySem.W.Frag) (mg : Str → Option Value) (x : Str) (st : Stmt) (ps : List Str) : Prop :=
  ∃ f fd, Fun K x x st f fd ∧ mg x = some (.ref f) ∧ Binds K fd ps []
section
variable {P : Program} {w : World} {K : PySem.W.Frag} {mg : Str → Option Value} {base : Heap}
theorem Has.mono {CX : CXT} {j k : Nat} {x : Str} {ps : List Str} {sp : Sp} (h : Has P w K mg base CX j x ps sp) (hk : j ≤ k) : Has P w K mg base CX k x ps sp :=
  let ⟨f, fd, a, b, c, d⟩ := h; ⟨f, fd, a, b, c, d.mono hk⟩
theorem has_of {x : Str} {st : Stmt} {N ps : List Str} {k : Nat} {sp : Sp} (D : At K mg x st ps) (S : FnScope N ps (defScope st)) (len : ∀ vs H Q E, sp vs H Q E → vs.length = ps.length)
    (hbody : ∀ (f : Addr) (cdv : Value) (A : Around) (outer : List Env) (s : Shared) (H : Hp) (vs : List V) (Q : VK) (E : XK), Room k (A.deeper (envOfC x (defScope st) s.heap.objs.size f cdv)) → sp vs H Q E →
      ∃ t, PSs (cxOf CX0 P w K mg base N x (defScope st) f cdv A outer s H E).nox (defBody st) t ∧ t { nx := fun _ H' => Q .non H', rt := Q } (start N vs) H) : Has P w K mg base CX0 (k + 1) x ps sp := by
  obtain ⟨f, fd, F, m, b⟩ := D
  exact ⟨f, fd, m, F.kp, b, F.ok S len (hbody f)⟩
end
theorem hcall {X : Cx} {x : Str} {ps : List Str} {sp : Sp} {k : Nat} {p pos : Pos} {e : Expr} {es : List Expr} {t : TA} (h : Has X.prog X.w X.K X.mg X.base CX0 k x ps sp) (hr : Room k X.A) (ha : PA X (e :: es) t) (hg : Gl X x := by rfl) (hd : (x == ("__debug__" : Str)) = false := by decide)
    (hs : starEach (e :: es) X.env = (false, eval e X.env) :: starEach es X.env := by rfl) (hpl : (backTo pos (starEach es X.env)).any (·.1) = false := by rfl) :
    PE X (.Call (.Name x p) (e :: es) [] pos) (tCall sp [] E0 t) := by
  obtain ⟨f, fd, m, kp, b, G⟩ := h
  exact pe_call G hr hg m kp b .nil pass0 ha hd hs hpl
/-! ### names in short -/
theorem nm {X : Cx} (i : Nat) {x : Str} {pos : Pos} (hN : X.N.Nodup) (hi : X.N[i]? = some x := by rfl) (hx : Loc X.env.scope x := by first | exact Or.inl rfl | exact Or.inr rfl) (hf : X.fn x = true ∨ X.env.scope.names.lookup x = some .local := by first | exact .inl rfl | exact .inr rfl) : PG X (.Name x pos) (gName i) := pg_name hN hi hx hf
theorem st_ {X : Cx} (i : Nat) {x : Str} {pos pos' : Pos} {e : Expr} {te : TE} (hN : X.N.Nodup) (he : PE X e te) (hi : X.N[i]? = some x := by rfl) (hx : Loc X.env.scope x := by first | exact Or.inl rfl | exact Or.inr rfl)
    (hs : swapsWith e (some (.Name x pos')) pos.line X.env = pure false := by rfl) (hf : X.fn x = true ∨ X.env.scope.names.lookup x = some .local := by first | exact .inl rfl | exact .inr rfl) : PS X (.Assign [.Name x pos'] e pos) (tAsg te (gName i)) := ps_set hN hi hx he hs hf
/-! ### readings with names -/
section
variable {X : Cx}
def rLenQ (K : PySem.W.Frag) : List V → Hp → VK → Prop := fun xs H Q => ∃ p ys, xs = [.ref p] ∧ (SqL K H p ys ∨ SqT K H p ys) ∧ Q (.int ys.length) H
theorem cr_len : CallR X (.builtin "len") (rLenQ X.K) := call_len_seq
def rLenZ : List V → Hp → VK → Prop := fun xs H Q => ∃ z : Str, xs = [.str z] ∧ z.length ≤ sizeLine ∧ Q (.int z.length) H
theorem cr_lenZ : CallR X (.builtin "len") rLenZ := call_len_str
def rCount : V → List V → Hp → VK → Prop := fun x xs H Q => ∃ a b, x = .str a ∧ xs = [.str b] ∧ Q (.int (Txt.count a b)) H
theorem mt_cnt : MtR X "str.count" rCount := mt_count
def rStripC : V → List V → Hp → VK → Prop := fun x xs H Q => ∃ a b, x = .str a ∧ xs = [.str b] ∧ a.length ≤ sizeLine ∧ Q (.str (Txt.stripChars a b)) H
theorem mt_stripC : MtR X "str.strip" rStripC := mt_stripChars
def rJoinQ (K : PySem.W.Frag) : V → List V → Hp → VK → Prop := fun x xs H Q => ∃ a p, ∃ ys : List Str, x = .str a ∧ xs = [.ref p] ∧ (SqL K H p (ys.map V.str) ∨ SqT K H p (ys.map V.str)) ∧ (ys.map (·.length)).sum + ys.length * a.length ≤ 16777216 ∧ Q (.str (Txt.join a ys)) H
theorem mt_joinQ : MtR X "str.join" (rJoinQ X.K) := mt_join
def rMin2 : List V → Hp → VK → Prop := fun xs H Q => ∃ i j, xs = [.int i, .int j] ∧ Q (.int (if j < i then j else i)) H
theorem cr_min2 (hc : X.calm = true) : CallR X (.builtin "min") rMin2 := call_min2 hc
theorem cr_max2 (hc : X.calm = true) : CallR X (.builtin "max") rMax2 := call_max2 hc
def rAbs : List V → Hp → VK → Prop := fun xs H Q => ∃ i, xs = [.int i] ∧ Q (.int (if i < 0 then -i else i)) H
theorem cr_abs : CallR X (.builtin "abs") rAbs := call_abs
def rIntB : List V → Hp → VK → Prop := fun xs H Q => (∃ i, xs = [.int i] ∧ Q (.int i) H) ∨ ∃ k, xs = [.bl k] ∧ Q (.int (if k then 1 else 0)) H
theorem cr_int : CallR X (.type "int") rIntB := call_int1
theorem cr_list : CallR X (.type "list") (rListS X.K) := call_list_of
def rMulW : R2 := rI (fun i j => IntMulOk i j) fun i j => .int (i * j)
theorem op_mulA : OpR X (binaryOp .Mult) rMulW := opI fun _ _ _ _ _ _ _ hc q => mul_int q hc
def rIsN : R2 := fun x y H Q => y = .non ∧ Q (.bl (decide (x = .non))) H
theorem op_isNn : OpR X (compareOp .Is) rIsN := op_isN
def rNotN : R2 := fun x y H Q => y = .non ∧ Q (.bl (!decide (x = .non))) H
theorem op_notNn : OpR X (compareOp .IsNot) rNotN := op_notN
end
/-! ### the rules with K told (within a comprehension's block) -/
section
variable {X : Cx} (K : PySem.W.Frag)
theorem ix_listK (h : X.K = K := by rfl) : IxR X (rIxL K) := by subst h; exact ix_list
theorem ix_tupK (h : X.K = K := by rfl) : IxR X (rIxT K) := by subst h; exact ix_tup
theorem cr_isiK (h : X.K = K := by rfl) : CallR X (.builtin "isinstance") (rIsi K) := by subst h; exact call_isi
theorem cr_lenK (h : X.K = K := by rfl) : CallR X (.builtin "len") (rLenQ K) := by subst h; exact cr_len
theorem cr_anyK (hc : X.calm = true) (h : X.K = K := by rfl) : CallR X (.builtin "any") (rAny K) := by subst h; exact cr_any hc
theorem cr_allK (hc : X.calm = true) (h : X.K = K := by rfl) : CallR X (.builtin "all") (rAll K) := by subst h; exact cr_all hc
theorem cr_sumK (hc : X.calm = true) (h : X.K = K := by rfl) : CallR X (.builtin "sum") (rSum K) := by subst h; exact cr_sum hc
theorem cr_minK1 (hc : X.calm = true) (h : X.K = K := by rfl) : CallR X (.builtin "min") (rMin K) := by subst h; exact cr_min hc
theorem cr_listK (h : X.K = K := by rfl) : CallR X (.type "list") (rListS K) := by subst h; exact cr_list
theorem cr_sortedK (h : X.K = K := by rfl) : CallR X (.builtin "sorted") (rSortedI K) := by subst h; exact cr_sortedI
theorem sl_listK (h : X.K = K := by rfl) : SlR X (rSlL K) := by subst h; exact sl_list
theorem op_eqDK (hu : X.A.units + 64 < cLine) (h : X.K = K := by rfl) : OpR X (compareOp .Eq) (rEqD K) := by subst h; exact op_eqD hu
theorem op_neDK (hu : X.A.units + 64 < cLine) (h : X.K = K := by rfl) : OpR X (compareOp .NotEq) (rNeD K) := by subst h; exact op_neD hu
theorem mt_joinK (h : X.K = K := by rfl) : MtR X "str.join" (rJoinQ K) := by subst h; exact mt_joinQ
theorem mt_indexK (h : X.K = K := by rfl) : MtR X "list.index" (rIndex K) := by subst h; exact mt_index
theorem bmK {T id : String} {name : Str} {o e : Expr} {es : List Expr} {apos cpos : Pos} {r : V → List V → Hp → VK → Prop} {to : TE} {t : TA} (pa : PlainAttrs T) (slot : Slot T name id) (hty : typeOf (.builtin id) = pure (.type "method_descriptor")) (hm : MtR X id r) (ho : PE X o to) (ha : PA X (e :: es) t)
    (h : X.K = K := by rfl) (hbase : attributeBase o name X.env (eval o X.env) = eval o X.env := by rfl)
    (hfew : ((backTo cpos (starEach (e :: es) X.env)).all (fun x => !x.1) && (backToKw cpos (keywordEach [] X.env)).all (fun x => x.1.isSome)
      && decide ((e :: es).length + ([] : List Keyword).length + (if ([] : List Keyword).isEmpty then 0 else 1) < 30)) = true := by rfl)
    (hline : (apos.endLine == cpos.line) = true := by rfl) (hs : starEach (e :: es) X.env = (false, eval e X.env) :: starEach es X.env := by rfl) (hplain : (backTo cpos (starEach es X.env)).any (·.1) = false := by rfl) :
    PE X (.Call (.Attribute o name apos) (e :: es) [] cpos) (tBM K T r to t) := by
  subst h
  exact pe_bm pa slot hty hm ho ha hbase hfew hline hs hplain
theorem pi_listK {tg l : Expr} {tl : TE} (hl : PE X l tl) (h : X.K = K := by rfl) : PI X tg l (iList K tl) := by subst h; exact pi_list hl
theorem pi_tupK {tg l : Expr} {tl : TE} (hl : PE X l tl) (h : X.K = K := by rfl) : PI X tg l (iTup K tl) := by subst h; exact pi_tup hl
theorem pi_enumK {e : Expr} {ta : TA} {p pos tpos : Pos} {elts : List Expr} {kk : Nat} (hm : X.mg "enumerate" = none) (ha : PA X [e] ta) (hg : Gl X "enumerate" := by rfl) (h : X.K = K := by rfl) (hs : starEach [e] X.env = [(false, eval e X.env)] := by rfl) :
    PI X (.Tuple elts kk tpos) (.Call (.Name "enumerate" p) [e] [] pos) (iEnum K ta) := by subst h; exact pi_enum hg hm ha hs
theorem pg_tupK {es : List Expr} {k : Nat} {pos : Pos} {t : TGs} {n : Nat} (hc : X.calm = true) (ht : PGs X es t) (h : X.K = K := by rfl) (hn : (assignEach es X.env).length = n := by rfl) (hst : (assignEach es X.env).findIdx? (·.1) = none := by rfl) : PG X (.Tuple es k pos) (gTup K n t) := by
  subst h
  exact pg_tup hc ht hn hst
theorem fldK {e : Expr} {f : Str} {pos : Pos} {ta : TE} (he : PE X e ta) (h : X.K = K := by rfl) (hb : attributeBase e f X.env (eval e X.env) = eval e X.env := by rfl) : PE X (.Attribute e f pos) (tFld K ta f) := by
  subst h
  exact pe_fld he hb
end
/-! ### what is walked -/
/-- plain items -/
structure Wk (J : It) (n : Nat) (H : Hp) (it : Nat → V) : Prop where
  goes : ∀ i H1, Ex H H1 → i < n → J.go i H1
  stops : ∀ H1, Ex H H1 → J.stop n H1
  yields : ∀ i H1 x H2, Ex H H1 → i < n → J.yld i H1 x H2 → H2 = H1 ∧ x = it i
/-- new pairs -/
structure Wk2 (J : It) (n : Nat) (H : Hp) (a b : Nat → V) : Prop where
  goes : ∀ i H1, Ex H H1 → i < n → J.go i H1
  stops : ∀ H1, Ex H H1 → J.stop n H1
  yields : ∀ i H1 x H2, Ex H H1 → i < n → J.yld i H1 x H2 → ∃ T, x = .ref T ∧ H1 T = none ∧ H2 = upd H1 T (.tup [a i, b i])
def EvW (wi : TI) (σ : St) (H Hw : Hp) (n : Nat) (it : Nat → V) : Prop := ∀ H1, Ex H H1 → ∀ R : It → Hp → Prop, (∀ J H2, Ex H1 H2 → Wk J n Hw it → R J H2) → wi σ H1 R
def EvW2 (wi : TI) (σ : St) (H Hw : Hp) (n : Nat) (a b : Nat → V) : Prop := ∀ H1, Ex H H1 → ∀ R : It → Hp → Prop, (∀ J H2, Ex H1 H2 → Wk2 J n Hw a b → R J H2) → wi σ H1 R
section
variable {K : PySem.W.Frag} {σ : St} {H Hw H' : Hp} {ta tb te tl : TE} {t u : TT} {x y z v : V}
theorem ew_list {a : Addr} {xs : List V} (h : Ev tl σ H (.ref a)) (hx : SqL K Hw a xs) (he : Ex Hw H) : EvW (iList K tl) σ H Hw xs.length (fun i => xs.getD i .non) := fun H1 e R r =>
  h H1 e _ fun H2 e2 => ⟨a, rfl, ⟨xs, ex_l ((he.trans e).trans e2) hx⟩, r _ H2 e2
    ⟨fun i H3 e3 hi => ⟨xs, xs[i], ex_l e3 hx, by simp [hi]⟩, fun H3 e3 => ⟨xs, ex_l e3 hx, Nat.le_refl _⟩, fun i H3 x H4 e3 hi y => ⟨y.1, by
      have q := y.2 xs (ex_l e3 hx)
      rw [List.getD_eq_getElem?_getD, q]; rfl⟩⟩⟩
/-- a list told by its places -/
theorem ew_listR {a : Addr} {n : Nat} {it : Nat → V} (h : Ev tl σ H (.ref a)) (hx : SqL K Hw a ((List.range n).map it)) (he : Ex Hw H) : EvW (iList K tl) σ H Hw n it := fun H1 e R r =>
  h H1 e _ fun H2 e2 => ⟨a, rfl, ⟨_, ex_l ((he.trans e).trans e2) hx⟩, r _ H2 e2
    ⟨fun i H3 e3 hi => ⟨_, it i, ex_l e3 hx, by simp [hi]⟩, fun H3 e3 => ⟨_, ex_l e3 hx, by simp⟩, fun i H3 x H4 e3 hi y => ⟨y.1, by
      have q := y.2 _ (ex_l e3 hx)
      rw [List.getElem?_map, List.getElem?_range hi] at q
      exact (Option.some.inj q).symm⟩⟩⟩
theorem ew_rng1 {ta : TA} {n : Nat} (h : EvA ta σ H [.int (n : Int)]) (hn : n ≤ 1000000) : EvW (iRng1 ta) σ H Hw n (fun i => .int (i : Nat)) := fun H1 e R r =>
  h H1 e _ fun H2 e2 => ⟨(n : Int), rfl, by omega, by omega, r _ H2 e2
    ⟨fun i H3 _ hi => (show i < (n : Int).toNat by omega), fun H3 _ => (show (n : Int).toNat ≤ n by omega), fun i H3 x H4 _ hi y => ⟨y.1, by rw [y.2]; simp⟩⟩⟩
theorem ew_rng2 {ta : TA} {lo hi : Int} {n : Nat} (h : EvA ta σ H [.int lo, .int hi]) (hn : n = (hi - lo).toNat) (hb : -1000000 ≤ lo ∧ lo ≤ 1000000 ∧ -1000000 ≤ hi ∧ hi ≤ 1000000) : EvW (iRng2 ta) σ H Hw n (fun i => .int (lo + (i : Nat))) := fun H1 e R r =>
  h H1 e _ fun H2 e2 => ⟨lo, hi, rfl, ⟨by omega, by omega, by omega, by omega⟩, r _ H2 e2
    ⟨fun i H3 _ hi' => (show i < (hi - lo).toNat by omega), fun H3 _ => (show (hi - lo).toNat ≤ n by omega), fun i H3 x H4 _ _ y => ⟨y.1, y.2⟩⟩⟩
theorem ew_rng3 {ta : TA} {lo hi c : Int} {n : Nat} (h : EvA ta σ H [.int lo, .int hi, .int c]) (hn : RgC lo hi c n) : EvW (iRng3 ta) σ H Hw n (fun i => .int (lo + (i : Nat) * c)) := fun H1 e R r =>
  h H1 e _ fun H2 e2 => ⟨lo, hi, c, n, rfl, hn, r _ H2 e2
    ⟨fun i H3 _ hi' => hi', fun H3 _ => Nat.le_refl _, fun i H3 x H4 _ _ y => ⟨y.1, y.2⟩⟩⟩
theorem ew_enumR {ta : TA} {a : Addr} {n : Nat} {it : Nat → V} (h : EvA ta σ H [.ref a]) (hx : SqL K Hw a ((List.range n).map it)) (he : Ex Hw H) : EvW2 (iEnum K ta) σ H Hw n (fun i => .int (i : Nat)) it := fun H1 e R r =>
  h H1 e _ fun H2 e2 => ⟨a, _, rfl, ex_l ((he.trans e).trans e2) hx, r _ H2 e2
    ⟨fun i H3 e3 hi => ⟨_, it i, ex_l e3 hx, by simp [hi]⟩, fun H3 e3 => ⟨_, ex_l e3 hx, by simp⟩, fun i H3 x H4 e3 hi y => by
      obtain ⟨T, z, h1, h2, h3, h4⟩ := y
      have q := h4 _ (ex_l e3 hx)
      rw [List.getElem?_map, List.getElem?_range hi] at q
      have q' : it i = z := Option.some.inj q
      exact ⟨T, h1, h2, by rw [h3, q']⟩⟩⟩
theorem ew_enum {ta : TA} {a : Addr} {xs : List V} (h : EvA ta σ H [.ref a]) (hx : SqL K Hw a xs) (he : Ex Hw H) : EvW2 (iEnum K ta) σ H Hw xs.length (fun i => .int (i : Nat)) (fun i => xs.getD i .non) := fun H1 e R r =>
  h H1 e _ fun H2 e2 => ⟨a, _, rfl, ex_l ((he.trans e).trans e2) hx, r _ H2 e2
    ⟨fun i H3 e3 hi => ⟨xs, xs[i], ex_l e3 hx, by simp [hi]⟩, fun H3 e3 => ⟨xs, ex_l e3 hx, Nat.le_refl _⟩, fun i H3 x H4 e3 hi y => by
      obtain ⟨T, z, h1, h2, h3, h4⟩ := y
      have q := h4 _ (ex_l e3 hx)
      exact ⟨T, h1, h2, by rw [h3, List.getD_eq_getElem?_getD, q]; rfl⟩⟩⟩
theorem ew_enumS {ta : TA} {z : Str} (h : EvA ta σ H [.str z]) : EvW2 (iEnumS ta) σ H Hw z.cps.size (fun i => .int (i : Nat)) (fun i => .str ⟨#[z.cps.getD i 0]⟩) := fun H1 e R r =>
  h H1 e _ fun H2 e2 => ⟨z, rfl, r _ H2 e2
    ⟨fun i H3 e3 hi => hi, fun H3 e3 => rfl, fun i H3 x H4 e3 hi y => by
      obtain ⟨T, c, h1, h2, h3, h4⟩ := y
      refine ⟨T, h1, h2, ?_⟩
      rw [h3]
      have q : z.cps.getD i 0 = c := by rw [Array.getD_eq_getD_getElem?, h4]; rfl
      rw [q]⟩⟩
theorem ew_str {z : Str} (h : Ev te σ H (.str z)) : EvW (iStr te) σ H Hw z.cps.size (fun i => .str ⟨#[z.cps.getD i 0]⟩) := fun H1 e R r =>
  h H1 e _ fun H2 e2 => ⟨z, rfl, r _ H2 e2
    ⟨fun i H3 e3 hi => hi, fun H3 e3 => Nat.le_refl _, fun i H3 x H4 e3 hi y => by
      obtain ⟨h1, c, h2, h3⟩ := y
      refine ⟨h1, ?_⟩
      rw [h3]
      have q : z.cps.getD i 0 = c := by rw [Array.getD_eq_getD_getElem?, h2]; rfl
      rw [q]⟩⟩
theorem EvW2.of_eq {wi : TI} {n m : Nat} {a b a' b' : Nat → V} (h : EvW2 wi σ H Hw n a b) (hn : n = m) (ha : ∀ i, i < n → a i = a' i) (hb : ∀ i, i < n → b i = b' i) : EvW2 wi σ H Hw m a' b' := by
  subst hn
  exact fun H1 e R r => h H1 e R fun J H2 e2 W => r J H2 e2 ⟨W.goes, W.stops, fun i H3 x H4 e3 hi y => by
    obtain ⟨T, h1, h2, h3⟩ := W.yields i H3 x H4 e3 hi y
    exact ⟨T, h1, h2, by rw [h3, ha i hi, hb i hi]⟩⟩
theorem EvW.of_eq {wi : TI} {n m : Nat} {a a' : Nat → V} (h : EvW wi σ H Hw n a) (hn : n = m) (ha : ∀ i, i < n → a i = a' i) : EvW wi σ H Hw m a' := by
  subst hn
  exact fun H1 e R r => h H1 e R fun J H2 e2 W => r J H2 e2 ⟨W.goes, W.stops, fun i H3 x H4 e3 hi y => by
    obtain ⟨h1, h2⟩ := W.yields i H3 x H4 e3 hi y
    exact ⟨h1, by rw [h2, ha i hi]⟩⟩
/-! ### for -/
variable {D : Ends} {tu tz : TS}
theorem s_for {wi : TI} {n j : Nat} {it : Nat → V} (h : EvW wi σ H Hw n it) (Pv : Nat → St → Hp → Prop) (h0 : ∀ H1, Ex H H1 → Pv 0 σ H1) (hx : ∀ i σ' H', i ≤ n → Pv i σ' H' → Ex Hw H')
    (hs : ∀ i σ' H', i < n → Pv i σ' H' → tu { D with nx := Pv (i + 1), ct := Pv (i + 1), bk := D.nx } (σ'.set j (some (it i))) H') (hd : ∀ σ' H', Pv n σ' H' → D.nx σ' H') : tFor wi (gName j) tu D σ H :=
  h H (Ex.refl H) _ fun J H2 e2 W => ⟨fun i m σ' H' => m = n - i ∧ i ≤ n ∧ Pv i σ' H', ⟨n, by simp, Nat.zero_le _, h0 H2 e2⟩, by
    rintro i m σ' H' ⟨rfl, hi, p⟩
    by_cases hlt : i < n
    · refine .inr ⟨W.goes i H' (hx i σ' H' hi p) hlt, Pv (i + 1), fun σ2 H3 p' => ⟨n - (i + 1), by omega, rfl, hlt, p'⟩, fun x H3 y => ?_⟩
      obtain ⟨e, e'⟩ := W.yields i H' x H3 (hx i σ' H' hi p) hlt y
      subst e e'
      exact hs i σ' _ hlt p
    · have e : i = n := by omega
      subst e
      exact .inl ⟨W.stops H' (hx i σ' H' hi p), hd σ' H' p⟩⟩
theorem s_for2 {wi : TI} {n j1 j2 : Nat} {a b : Nat → V} (h : EvW2 wi σ H Hw n a b) (Pv : Nat → St → Hp → Prop) (h0 : ∀ H1, Ex H H1 → Pv 0 σ H1) (hx : ∀ i σ' H', i ≤ n → Pv i σ' H' → Ex Hw H')
    (hs : ∀ i σ' H' T, i < n → Pv i σ' H' → H' T = none → tu { D with nx := Pv (i + 1), ct := Pv (i + 1), bk := D.nx } ((σ'.set j1 (some (a i))).set j2 (some (b i))) (upd H' T (.tup [a i, b i]))) (hd : ∀ σ' H', Pv n σ' H' → D.nx σ' H') :
    tFor wi (gTup K 2 (gCons (gName j1) (gCons (gName j2) gNil))) tu D σ H :=
  h H (Ex.refl H) _ fun J H2 e2 W => ⟨fun i m σ' H' => m = n - i ∧ i ≤ n ∧ Pv i σ' H', ⟨n, by simp, Nat.zero_le _, h0 H2 e2⟩, by
    rintro i m σ' H' ⟨rfl, hi, p⟩
    by_cases hlt : i < n
    · refine .inr ⟨W.goes i H' (hx i σ' H' hi p) hlt, Pv (i + 1), fun σ2 H3 p' => ⟨n - (i + 1), by omega, rfl, hlt, p'⟩, fun x H3 y => ?_⟩
      obtain ⟨T, e, e', e''⟩ := W.yields i H' x H3 (hx i σ' H' hi p) hlt y
      subst e e''
      exact ⟨T, _, rfl, SqT.of upd_same, rfl, a i, [b i], rfl, b i, [], rfl, rfl, hs i σ' H' T hlt p e'⟩
    · have e : i = n := by omega
      subst e
      exact .inl ⟨W.stops H' (hx i σ' H' hi p), hd σ' H' p⟩⟩
theorem q_for {wi : TI} {n j : Nat} {it : Nat → V} (h : EvW wi σ H Hw n it) (Pv : Nat → St → Hp → Prop) (h0 : ∀ H1, Ex H H1 → Pv 0 σ H1) (hx : ∀ i σ' H', i ≤ n → Pv i σ' H' → Ex Hw H')
    (hs : ∀ i σ' H', i < n → Pv i σ' H' → tu { D with nx := Pv (i + 1), ct := Pv (i + 1), bk := tz D } (σ'.set j (some (it i))) H') (hd : ∀ σ' H', Pv n σ' H' → tz D σ' H') : tSeq (tFor wi (gName j) tu) tz D σ H :=
  s_for (D := { D with nx := tz D }) h Pv h0 hx hs hd
theorem q_for2 {wi : TI} {n j1 j2 : Nat} {a b : Nat → V} (h : EvW2 wi σ H Hw n a b) (Pv : Nat → St → Hp → Prop) (h0 : ∀ H1, Ex H H1 → Pv 0 σ H1) (hx : ∀ i σ' H', i ≤ n → Pv i σ' H' → Ex Hw H')
    (hs : ∀ i σ' H' T, i < n → Pv i σ' H' → H' T = none → tu { D with nx := Pv (i + 1), ct := Pv (i + 1), bk := tz D } ((σ'.set j1 (some (a i))).set j2 (some (b i))) (upd H' T (.tup [a i, b i]))) (hd : ∀ σ' H', Pv n σ' H' → tz D σ' H') :
    tSeq (tFor wi (gTup K 2 (gCons (gName j1) (gCons (gName j2) gNil))) tu) tz D σ H :=
  s_for2 (D := { D with nx := tz D }) h Pv h0 hx hs hd
/-! ### comprehensions -/
theorem et_yes : EvT tYes σ H true := fun H1 _ _ q => q H1 (Ex.refl H1)
theorem el_lc {wi : TI} {n j : Nat} {it : Nat → V} {vs : List Nat} (f : Nat → Bool) (g : Nat → V) (h : EvW wi σ H H n it) (hn : n < 50000) (hw : ∀ x, wipe ((wipe σ vs).set j (some x)) vs = wipe σ vs)
    (ht : ∀ i H1, Ex H H1 → i < n → EvT t ((wipe σ vs).set j (some (it i))) H1 (f i)) (he : ∀ i H1, Ex H H1 → i < n → f i = true → Ev te ((wipe σ vs).set j (some (it i))) H1 (g i)) :
    EvL (tLc wi (gName j) t te vs) σ H (given n f g) := fun H0 e Q q => h H0 e _ fun J H1 e1 W Dl hD =>
  ⟨fun i m H' => m = n - i ∧ i ≤ n ∧ Cw H1 f g Dl i H', ⟨n, by simp, Nat.zero_le _, hD, Ex.new hD, upd_same⟩, by
    rintro i m H' ⟨rfl, hi, p⟩
    have ex := (e.trans e1).trans p.2.1
    by_cases hlt : i < n
    · refine .inr ⟨W.goes i H' ex hlt, Cw H1 f g Dl (i + 1), fun H3 p' => ⟨n - (i + 1), by omega, rfl, hlt, p'⟩, fun x H3 y => ?_⟩
      obtain ⟨e2, e3⟩ := W.yields i H' x H3 ex hlt y
      subst e2 e3
      exact ⟨hw _, cw_turn p (by omega) (ht i H1 (e.trans e1) hlt) (fun hf => he i H1 (e.trans e1) hlt hf)⟩
    · have e2 : i = n := by omega
      subst e2
      exact .inl ⟨W.stops H' ex, q Dl H' (fresh_back e1 p.1) (e1.trans p.2.1) p.2.2⟩⟩
theorem el_lc2 {wi : TI} {n j1 j2 : Nat} {a b : Nat → V} {vs : List Nat} (f : Nat → Bool) (g : Nat → V) (h : EvW2 wi σ H H n a b) (hn : n < 50000) (hw : ∀ x y, wipe (((wipe σ vs).set j1 (some x)).set j2 (some y)) vs = wipe σ vs)
    (ht : ∀ i H1, Ex H H1 → i < n → EvT t (((wipe σ vs).set j1 (some (a i))).set j2 (some (b i))) H1 (f i)) (he : ∀ i H1, Ex H H1 → i < n → f i = true → Ev te (((wipe σ vs).set j1 (some (a i))).set j2 (some (b i))) H1 (g i)) :
    EvL (tLc wi (gTup K 2 (gCons (gName j1) (gCons (gName j2) gNil))) t te vs) σ H (given n f g) := fun H0 e Q q => h H0 e _ fun J H1 e1 W Dl hD =>
  ⟨fun i m H' => m = n - i ∧ i ≤ n ∧ Cw H1 f g Dl i H', ⟨n, by simp, Nat.zero_le _, hD, Ex.new hD, upd_same⟩, by
    rintro i m H' ⟨rfl, hi, p⟩
    have ex := (e.trans e1).trans p.2.1
    by_cases hlt : i < n
    · refine .inr ⟨W.goes i H' ex hlt, Cw H1 f g Dl (i + 1), fun H3 p' => ⟨n - (i + 1), by omega, rfl, hlt, p'⟩, fun x H3 y => ?_⟩
      obtain ⟨T, e2, e3, e4⟩ := W.yields i H' x H3 ex hlt y
      subst e2 e4
      have nT : T ≠ Dl := fun z => by rw [z, p.2.2] at e3; cases e3
      have p' : Cw H1 f g Dl i (upd H' T (.tup [a i, b i])) := ⟨p.1, p.2.1.trans (Ex.new e3), by rw [upd_ne nT.symm]; exact p.2.2⟩
      exact ⟨T, _, rfl, SqT.of upd_same, rfl, a i, [b i], rfl, b i, [], rfl, rfl, hw _ _, cw_turn p' (by omega) (ht i H1 (e.trans e1) hlt) (fun hf => he i H1 (e.trans e1) hlt hf)⟩
    · have e2 : i = n := by omega
      subst e2
      exact .inl ⟨W.stops H' ex, q Dl H' (fresh_back e1 p.1) (e1.trans p.2.1) p.2.2⟩⟩
theorem given_all (n : Nat) (g : Nat → V) : given n (fun _ => true) g = (List.range n).map g := by
  unfold given
  rw [List.filter_eq_self.mpr fun _ _ => rfl]
theorem el_is {xs ys : List V} (h : EvL te σ H xs) (e : xs = ys) : EvL te σ H ys := e ▸ h
/-- without a test: told by places -/
theorem el_map {wi : TI} {n j : Nat} {it : Nat → V} {vs : List Nat} (g : Nat → V) (h : EvW wi σ H H n it) (hn : n < 50000) (hw : ∀ x, wipe ((wipe σ vs).set j (some x)) vs = wipe σ vs)
    (he : ∀ i H1, Ex H H1 → i < n → Ev te ((wipe σ vs).set j (some (it i))) H1 (g i)) : EvL (tLc wi (gName j) tYes te vs) σ H ((List.range n).map g) :=
  el_is (el_lc (fun _ => true) g h hn hw (fun _ _ _ _ => et_yes) fun i H1 e hi _ => he i H1 e hi) (given_all n g)
theorem el_map2 {wi : TI} {n j1 j2 : Nat} {a b : Nat → V} {vs : List Nat} (g : Nat → V) (h : EvW2 wi σ H H n a b) (hn : n < 50000) (hw : ∀ x y, wipe (((wipe σ vs).set j1 (some x)).set j2 (some y)) vs = wipe σ vs)
    (he : ∀ i H1, Ex H H1 → i < n → Ev te (((wipe σ vs).set j1 (some (a i))).set j2 (some (b i))) H1 (g i)) : EvL (tLc wi (gTup K 2 (gCons (gName j1) (gCons (gName j2) gNil))) tYes te vs) σ H ((List.range n).map g) :=
  el_is (el_lc2 (fun _ => true) g h hn hw (fun _ _ _ _ => et_yes) fun i H1 e hi _ => he i H1 e hi) (given_all n g)
/-! ### built-ins -/
theorem ev_lenL {p : Addr} {xs : List V} (h : Ev te σ H (.ref p)) (hx : SqL K H p xs) : Ev (tCB (rLenQ K) (tCons te tNil)) σ H (.int (xs.length : Int)) := fun H1 e Q q =>
  h H1 e _ fun H2 e2 => ⟨p, xs, rfl, Or.inl (ex_l (e.trans e2) hx), q H2 e2⟩
theorem ev_lenLR {p : Addr} {n : Nat} {it : Nat → V} (h : Ev te σ H (.ref p)) (hx : SqL K H p ((List.range n).map it)) : Ev (tCB (rLenQ K) (tCons te tNil)) σ H (.int (n : Int)) := ev_is (ev_lenL h hx) (by simp)
theorem ev_lenZ {s : Str} (h : Ev te σ H (.str s)) (hs : s.length ≤ 100000) : Ev (tCB rLenZ (tCons te tNil)) σ H (.int (s.length : Int)) := fun H1 e Q q =>
  h H1 e _ fun H2 e2 => ⟨s, rfl, sz_of hs, q H2 e2⟩
theorem ev_cntS {a b : Str} (h : Ev ta σ H (.str a)) (hb : Ev tb σ H (.str b)) : Ev (tBM K "str" rCount ta (tCons tb tNil)) σ H (.int (Txt.count a b)) := fun H1 e Q q =>
  h H1 e _ fun H2 e2 => ⟨rfl, hb H2 (e.trans e2) _ fun H3 e3 => ⟨a, b, rfl, rfl, q H3 (e2.trans e3)⟩⟩
theorem ev_stripS {a b : Str} (h : Ev ta σ H (.str a)) (hb : Ev tb σ H (.str b)) (hs : a.length ≤ 100000) : Ev (tBM K "str" rStripC ta (tCons tb tNil)) σ H (.str (Txt.stripChars a b)) := fun H1 e Q q =>
  h H1 e _ fun H2 e2 => ⟨rfl, hb H2 (e.trans e2) _ fun H3 e3 => ⟨a, b, rfl, rfl, sz_of hs, q H3 (e2.trans e3)⟩⟩
theorem ev_joinR {a : Str} {n : Nat} {f : Nat → Str} (h : Ev ta σ H (.str a)) (hb : EvL tb σ H ((List.range n).map fun i => V.str (f i))) (hz : (((List.range n).map f).map (·.length)).sum + n * a.length ≤ 16777216) : Ev (tBM K "str" (rJoinQ K) ta (tCons tb tNil)) σ H (.str (Txt.join a ((List.range n).map f))) := fun H1 e Q q =>
  h H1 e _ fun H2 e2 => ⟨rfl, hb H2 (e.trans e2) _ fun p H3 _ e3 hp => ⟨a, p, (List.range n).map f, rfl, rfl, Or.inl (by
    have e4 : ((List.range n).map f).map V.str = (List.range n).map fun i => V.str (f i) := by rw [List.map_map]; rfl
    rw [e4]; exact sq_of hp), by simpa using hz, q H3 (e2.trans e3)⟩⟩
/-- .. of a list that stands -/
theorem ev_joinL {a : Str} {p : Addr} {n : Nat} {f : Nat → Str} (h : Ev ta σ H (.str a)) (hb : Ev tb σ H (.ref p)) (hp : SqL K H p ((List.range n).map fun i => V.str (f i))) (hz : (((List.range n).map f).map (·.length)).sum + n * a.length ≤ 16777216) : Ev (tBM K "str" (rJoinQ K) ta (tCons tb tNil)) σ H (.str (Txt.join a ((List.range n).map f))) := fun H1 e Q q =>
  h H1 e _ fun H2 e2 => ⟨rfl, hb H2 (e.trans e2) _ fun H3 e3 => ⟨a, p, (List.range n).map f, rfl, rfl, Or.inl (by
    have e4 : ((List.range n).map f).map V.str = (List.range n).map fun i => V.str (f i) := by rw [List.map_map]; rfl
    rw [e4]; exact ex_l ((e.trans e2).trans e3) hp), by simpa using hz, q H3 (e2.trans e3)⟩⟩
theorem ev_anyR {n : Nat} {g : Nat → Bool} (h : EvL te σ H ((List.range n).map fun i => V.bl (g i))) : Ev (tCB (rAny K) (tCons te tNil)) σ H (.bl ((List.range n).any g)) := fun H1 e Q q =>
  h H1 e _ fun p H2 _ e2 hp => ⟨p, (List.range n).map g, rfl, by
    have e4 : ((List.range n).map g).map V.bl = (List.range n).map fun i => V.bl (g i) := by rw [List.map_map]; rfl
    rw [e4]; exact sq_of hp, by rw [List.any_map]; exact q H2 e2⟩
theorem ev_allR {n : Nat} {g : Nat → Bool} (h : EvL te σ H ((List.range n).map fun i => V.bl (g i))) : Ev (tCB (rAll K) (tCons te tNil)) σ H (.bl ((List.range n).all g)) := fun H1 e Q q =>
  h H1 e _ fun p H2 _ e2 hp => ⟨p, (List.range n).map g, rfl, by
    have e4 : ((List.range n).map g).map V.bl = (List.range n).map fun i => V.bl (g i) := by rw [List.map_map]; rfl
    rw [e4]; exact sq_of hp, by rw [List.all_map]; exact q H2 e2⟩
theorem sum_sm (f : Nat → Int) : ∀ n : Nat, ((List.range n).map f).sum = sm n f
  | 0 => rfl
  | n + 1 => by
    rw [List.range_succ, List.map_append, List.sum_append, sum_sm f n]
    show sm n f + (f n + 0) = sm n f + f n
    omega
theorem ev_sumR {n : Nat} {g : Nat → Int} (h : EvL te σ H ((List.range n).map fun i => V.int (g i))) : Ev (tCB (rSum K) (tCons te tNil)) σ H (.int (sm n g)) := fun H1 e Q q =>
  h H1 e _ fun p H2 _ e2 hp => ⟨p, (List.range n).map g, rfl, by
    have e4 : ((List.range n).map g).map V.int = (List.range n).map fun i => V.int (g i) := by rw [List.map_map]; rfl
    rw [e4]; exact sq_of hp, by rw [sum_sm]; exact q H2 e2⟩
theorem ev_sumL {p : Addr} {ns : List Int} (h : Ev te σ H (.ref p)) (hx : SqL K H p (ns.map V.int)) : Ev (tCB (rSum K) (tCons te tNil)) σ H (.int ns.sum) := fun H1 e Q q =>
  h H1 e _ fun H2 e2 => ⟨p, ns, rfl, ex_l (e.trans e2) hx, q H2 e2⟩
theorem ev_min2 {i j : Int} (ha : Ev ta σ H (.int i)) (hb : Ev tb σ H (.int j)) : Ev (tCB rMin2 (tCons ta (tCons tb tNil))) σ H (.int (if j < i then j else i)) := fun H1 e Q q =>
  ha H1 e _ fun H2 e2 => hb H2 (e.trans e2) _ fun H3 e3 => ⟨i, j, rfl, q H3 (e2.trans e3)⟩
theorem ev_abs {i : Int} (ha : Ev ta σ H (.int i)) : Ev (tCB rAbs (tCons ta tNil)) σ H (.int (if i < 0 then -i else i)) := fun H1 e Q q =>
  ha H1 e _ fun H2 e2 => ⟨i, rfl, q H2 e2⟩
theorem ev_intB {b : Bool} (ha : Ev ta σ H (.bl b)) : Ev (tCB rIntB (tCons ta tNil)) σ H (.int (if b then 1 else 0)) := fun H1 e Q q =>
  ha H1 e _ fun H2 e2 => Or.inr ⟨b, rfl, q H2 e2⟩
/-! ### isinstance -/
theorem ev_isi {x : V} {T : String} {t : Value} {b : Bool} (ha : Ev ta σ H x) (hc : Ev tb σ H (.ty T)) (ht : ∀ H1, Ex H H1 → TyX K H1 x t) (hk : PySem.W.kitOne K t (.type T) = some b) : Ev (tCB (rIsi K) (tCons ta (tCons tb tNil))) σ H (.bl b) := fun H1 e Q q =>
  ha H1 e _ fun H2 e2 => hc H2 (e.trans e2) _ fun H3 e3 => ⟨x, .ty T, t, .type T, b, rfl, .ty T, ht H3 ((e.trans e2).trans e3), hk, q H3 (e2.trans e3)⟩
end
end AK

namespace AK
open PySem PySem.Spec PySem.Builtin PySem.Builtin.Str PyProof.Rows L2 Evl Ak
/-! ### rows -/
def sgN (b : Bool) : Nat := if b then 120 else 45
def sgS (b : Bool) : Str := ⟨#[sgN b]⟩
def rowS (n : Nat) (f : Nat → Bool) : Str := ⟨((List.range n).map fun j => sgN (f j)).toArray⟩
theorem x_eq : ("x" : Str) = ⟨#[120]⟩ := by decide +kernel
theorem d_eq : ("-" : Str) = ⟨#[45]⟩ := by decide +kernel
theorem e_eq : ("" : Str) = ⟨#[]⟩ := by decide +kernel
theorem sgS_x : sgS true = "x" := x_eq.symm
theorem sgS_d : sgS false = "-" := d_eq.symm
theorem sg_ite (b : Bool) : (if b then ("x" : Str) else "-") = sgS b := by cases b <;> first | exact x_eq | exact d_eq
theorem row_len (n : Nat) (f : Nat → Bool) : (rowS n f).length = n := by simp [rowS, Str.length]
theorem row_size (n : Nat) (f : Nat → Bool) : (rowS n f).cps.size = n := row_len n f
theorem row_congr {n : Nat} {f g : Nat → Bool} (h : ∀ i, i < n → f i = g i) : rowS n f = rowS n g := by
  unfold rowS
  congr 2
  exact List.map_congr_left fun i hi => by rw [h i (List.mem_range.mp hi)]
theorem row_at {n : Nat} {f : Nat → Bool} {j : Nat} (hj : j < n) : atI (rowS n f).cps.toList (j : Int) = some (sgN (f j)) := by
  refine atI_nat ?_
  simp [rowS, hj]
theorem row_get {n : Nat} {f : Nat → Bool} {j : Nat} (hj : j < n) : (rowS n f).cps.getD j 0 = sgN (f j) := by
  have h : j < (rowS n f).cps.size := by rw [row_size]; exact hj
  simp [rowS, hj]
theorem sgS_inj {a b : Bool} : sgS a = sgS b ↔ a = b := by
  cases a <;> cases b <;> simp [sgS, sgN]
theorem row_inj {n : Nat} {f g : Nat → Bool} : rowS n f = rowS n g ↔ ∀ i, i < n → f i = g i := by
  constructor
  · intro h i hi
    have e1 := row_get (f := f) hi
    have e2 := row_get (f := g) hi
    rw [h, e2] at e1
    revert e1
    cases f i <;> cases g i <;> simp [sgN]
  · exact row_congr
/-- comparisons with a sign -/
theorem dec_x (b : Bool) : decide (V.str (sgS b) = V.str "x") = b := by
  have e : (V.str (sgS b) = V.str "x") ↔ b = true := by
    rw [← sgS_x]
    constructor
    · intro h; exact sgS_inj.mp (V.str.inj h)
    · intro h; rw [h]
  cases b <;> simp [e]
theorem dec_d (b : Bool) : decide (V.str (sgS b) = V.str "-") = !b := by
  have e : (V.str (sgS b) = V.str "-") ↔ b = false := by
    rw [← sgS_d]
    constructor
    · intro h; exact sgS_inj.mp (V.str.inj h)
    · intro h; rw [h]
  cases b <;> simp [e]
theorem dec_sg (a b : Bool) : decide (V.str (sgS a) = V.str (sgS b)) = (a == b) := by
  have e : (V.str (sgS a) = V.str (sgS b)) ↔ a = b := ⟨fun h => sgS_inj.mp (V.str.inj h), fun h => by rw [h]⟩
  cases a <;> cases b <;> simp [e]
/-- how many x -/
theorem cnt_row (f : Nat → Bool) : ∀ n : Nat, cnt 120 ((List.range n).map fun j => sgN (f j)) = sm n fun j => b2 (f j)
  | 0 => rfl
  | n + 1 => by
    rw [List.range_succ, List.map_append, cnt_append, cnt_row f n]
    show _ + cnt 120 [sgN (f n)] = sm n _ + b2 (f n)
    congr 1
    rw [cnt_cons, cnt_nil]
    cases f n <;> simp [sgN, b2]
theorem count_row (n : Nat) (f : Nat → Bool) : Txt.count (rowS n f) "x" = sm n fun j => b2 (f j) := by
  rw [x_eq, count_is]
  show cnt 120 (rowS n f).cps.toList = _
  rw [show (rowS n f).cps.toList = (List.range n).map fun j => sgN (f j) from rfl]
  exact cnt_row f n
/-- joined signs -/
theorem join_cat (xs : List Str) : Txt.join "" xs = ⟨(xs.flatMap fun x => x.cps.toList).toArray⟩ := by
  rw [show Txt.join "" xs = Str.join "" xs from PySem.StrLaws.glued_eq_join _ _, e_eq]
  have key : ∀ xs : List Str, Str.join ⟨#[]⟩ xs = ⟨(xs.flatMap fun x => x.cps.toList).toArray⟩ := by
    intro xs
    induction xs with
    | nil => rfl
    | cons x r ih =>
      cases r with
      | nil =>
        show x = _
        obtain ⟨c⟩ := x
        simp
      | cons y r =>
        show x ++ ⟨#[]⟩ ++ Str.join ⟨#[]⟩ (y :: r) = _
        rw [ih]
        obtain ⟨c⟩ := x
        show (⟨c ++ #[] ++ _⟩ : Str) = _
        simp
  exact key xs
theorem join_signs (n : Nat) (f : Nat → Bool) : Txt.join "" ((List.range n).map fun j => sgS (f j)) = rowS n f := by
  rw [join_cat]
  unfold rowS
  congr 2
  rw [List.flatMap_map]
  show List.flatMap (fun a => [sgN (f a)]) (List.range n) = _
  induction (List.range n) with
  | nil => rfl
  | cons a r ih => rw [List.flatMap_cons, ih]; rfl
theorem sum_ones : ∀ n : Nat, (((List.range n).map fun j => ((1 : Nat)))).sum = n
  | 0 => rfl
  | n + 1 => by rw [List.range_succ, List.map_append, List.sum_append, sum_ones n]; rfl
theorem sum_lens {n : Nat} {f : Nat → Str} {m : Nat} (h : ∀ i, i < n → (f i).length = m) : (((List.range n).map f).map (·.length)).sum = n * m := by
  induction n with
  | zero => simp
  | succ n ih =>
    rw [List.range_succ, List.map_append, List.map_append, List.sum_append, ih fun i hi => h i (by omega)]
    simp [h n (by omega)]
    exact (Nat.succ_mul n m).symm
theorem signs_fit {n : Nat} (f : Nat → Bool) (hn : n ≤ 1000) : (((List.range n).map fun j => sgS (f j)).map (·.length)).sum + n * ("" : Str).length ≤ 16777216 := by
  rw [sum_lens (m := 1) fun i _ => rfl]
  have e : ("" : Str).length = 0 := by rw [e_eq]; rfl
  rw [e]; omega
/-- strip of signs leaves nothing just where all are signs -/
theorem strip_iff (z : Str) : Txt.stripChars z "x-" = "" ↔ ∀ j, j < z.length → z.cps.getD j 0 = 120 ∨ z.cps.getD j 0 = 45 := by
  have eg : ∀ c : Nat, ("x-" : Str).cps.contains c = true ↔ c = 120 ∨ c = 45 := by
    intro c
    have e : ("x-" : Str) = ⟨#[120, 45]⟩ := by decide +kernel
    rw [e]; simp
  have ef : ∀ c : Nat, ("x-" : Str).cps.contains c = false ↔ ¬ (c = 120 ∨ c = 45) := by
    intro c
    rw [← eg c]
    cases ("x-" : Str).cps.contains c <;> simp
  unfold Txt.stripChars
  rw [stripBy_eq]
  obtain ⟨a1, a2, a3⟩ := lo_facts ("x-" : Str).cps.contains z
  generalize stripLo ("x-" : Str).cps.contains true z = lo at a1 a2 a3 ⊢
  obtain ⟨b1, b2, b3, b4⟩ := hi_facts ("x-" : Str).cps.contains z lo a1
  generalize stripHi ("x-" : Str).cps.contains true z lo = hi at b1 b2 b3 b4 ⊢
  have hlen : (strSub z lo hi).length = hi - lo := by
    show (z.cps.extract lo hi).size = _
    rw [Array.size_extract]
    have : z.cps.size = z.length := rfl
    omega
  have h0 : strSub z lo hi = "" ↔ hi = lo := by
    rw [e_eq]
    constructor
    · intro h
      rw [h] at hlen
      have : (0 : Nat) = hi - lo := hlen
      omega
    · intro h
      have q : (strSub z lo hi).cps.size = 0 := by
        have : (strSub z lo hi).cps.size = hi - lo := hlen
        omega
      obtain ⟨c, e⟩ : ∃ c, strSub z lo hi = ⟨c⟩ := ⟨_, rfl⟩
      rw [e] at q ⊢
      have q' : c = #[] := Array.eq_empty_of_size_eq_zero q
      rw [q']
  rw [h0]
  constructor
  · intro h j hj
    by_cases c : j < lo
    · exact (eg _).mp (a2 j c)
    · exact (eg _).mp (b3 j (by omega) hj)
  · intro h
    rcases b4 with q | q
    · exact q
    · by_cases e : hi = lo
      · exact e
      · exact absurd (h (hi - 1) (by omega)) ((ef _).mp q)
theorem strip_row (n : Nat) (f : Nat → Bool) : Txt.stripChars (rowS n f) "x-" = "" := by
  rw [strip_iff]
  intro j hj
  rw [row_len] at hj
  rw [row_get hj]
  cases f j
  · exact Or.inr rfl
  · exact Or.inl rfl
end AK

namespace AK
open PySem PySem.Spec PyProof.Rows L2 Evl Ak
/-! ### webs -/
def webV (n : Nat) (k : Rel) : List V := (List.range n).map fun i => V.str (rowS n (k i))
structure WebAt (K : PySem.W.Frag) (H : Hp) (a : Addr) (n : Nat) (k : Rel) : Prop where
  seq : SqL K H a (webV n k)
  w : IsW n k
  le : n ≤ 200
section
variable {K : PySem.W.Frag} {σ : St} {H H0 Hw H' : Hp} {ta tb te tl : TE} {t u : TT} {x y z v : V} {a : Addr} {n : Nat} {k : Rel}
theorem WebAt.ex (h : WebAt K H a n k) (e : Ex H H') : WebAt K H' a n k := ⟨ex_l e h.seq, h.w, h.le⟩
theorem webV_len (n : Nat) (k : Rel) : (webV n k).length = n := by simp [webV]
theorem webV_at {i : Nat} (hi : i < n) : (webV n k)[i]? = some (V.str (rowS n (k i))) := by simp [webV, hi]
theorem webV_congr {k k' : Rel} (h : ∀ i j, i < n → j < n → k i j = k' i j) : webV n k = webV n k' := by
  unfold webV
  exact List.map_congr_left fun i hi => by rw [row_congr fun j hj => h i j (List.mem_range.mp hi) hj]
theorem rv_web {i : Nat} (h : SqL K H0 a (webV n k)) (e : Ex H0 H) (hi : i < n) : RV (rIxL K) (.ref a) (.int (i : Nat)) H (.str (rowS n (k i))) := rv_ixL (ex_l e h) (atI_nat (webV_at hi))
theorem rv_row {f : Nat → Bool} {j : Nat} (hj : j < n) (hn : n ≤ 200) : RV rIxS (.str (rowS n f)) (.int (j : Nat)) H (.str (sgS (f j))) := rv_ixS (by rw [row_len]; omega) (row_at hj)
/-- web[i][j] -/
theorem ev_cell {i j : Nat} {tw ti tj : TE} (h : SqL K H0 a (webV n k)) (e : Ex H0 H) (hn : n ≤ 200) (hw : Ev tw σ H (.ref a)) (h1 : Ev ti σ H (.int (i : Nat))) (h2 : Ev tj σ H (.int (j : Nat))) (hi : i < n) (hj : j < n) :
    Ev (tOp rIxS (tOp (rIxL K) tw ti) tj) σ H (.str (sgS (k i j))) := ev_op (ev_op hw h1 (rv_web h e hi)) h2 (rv_row hj hn)
theorem ev_lenW (h : SqL K H0 a (webV n k)) (e : Ex H0 H) (hw : Ev te σ H (.ref a)) : Ev (tCB (rLenQ K) (tCons te tNil)) σ H (.int (n : Int)) := ev_is (ev_lenL hw (ex_l e h)) (by rw [webV_len])
theorem ew_web (h : SqL K Hw a (webV n k)) (e : Ex Hw H) (hw : Ev te σ H (.ref a)) : EvW (iList K te) σ H Hw n (fun i => V.str (rowS n (k i))) := ew_listR hw h e
theorem ew_enumW {ta : TA} (h : SqL K Hw a (webV n k)) (e : Ex Hw H) (hw : EvA ta σ H [.ref a]) : EvW2 (iEnum K ta) σ H Hw n (fun i => .int (i : Nat)) (fun i => V.str (rowS n (k i))) := ew_enumR hw h e
theorem ew_enumRow {ta : TA} {f : Nat → Bool} (hw : EvA ta σ H [.str (rowS n f)]) : EvW2 (iEnumS ta) σ H Hw n (fun i => .int (i : Nat)) (fun i => V.str (sgS (f i))) :=
  (ew_enumS hw).of_eq (row_size n f) (fun _ _ => rfl) fun i hi => by
    rw [row_size] at hi
    rw [row_get hi]; rfl
theorem ev_cntRow {f : Nat → Bool} (h : Ev ta σ H (.str (rowS n f))) (hb : Ev tb σ H (.str "x")) : Ev (tBM K "str" rCount ta (tCons tb tNil)) σ H (.int (sm n fun j => b2 (f j))) := ev_is (ev_cntS h hb) (by rw [count_row])
theorem ev_lenRow {f : Nat → Bool} (h : Ev te σ H (.str (rowS n f))) (hn : n ≤ 200) : Ev (tCB rLenZ (tCons te tNil)) σ H (.int (n : Int)) := ev_is (ev_lenZ h (by rw [row_len]; omega)) (by rw [row_len])
theorem ev_stripRow {f : Nat → Bool} (h : Ev ta σ H (.str (rowS n f))) (hb : Ev tb σ H (.str "x-")) (hn : n ≤ 200) : Ev (tBM K "str" rStripC ta (tCons tb tNil)) σ H (.str "") := ev_is (ev_stripS h hb (by rw [row_len]; omega)) (by rw [strip_row])
theorem ev_joinRow {f : Nat → Bool} (h : Ev ta σ H (.str "")) (hb : EvL tb σ H ((List.range n).map fun i => V.str (sgS (f i)))) (hn : n ≤ 200) : Ev (tBM K "str" (rJoinQ K) ta (tCons tb tNil)) σ H (.str (rowS n f)) :=
  ev_is (ev_joinR h hb (signs_fit f (by omega))) (by rw [join_signs])
theorem ev_joinRowL {f : Nat → Bool} {p : Addr} (h : Ev ta σ H (.str "")) (hb : Ev tb σ H (.ref p)) (hp : SqL K H0 p ((List.range n).map fun i => V.str (sgS (f i)))) (e : Ex H0 H) (hn : n ≤ 200) : Ev (tBM K "str" (rJoinQ K) ta (tCons tb tNil)) σ H (.str (rowS n f)) :=
  ev_is (ev_joinL h hb (ex_l e hp) (signs_fit f (by omega))) (by rw [join_signs])
/-! comparisons with signs -/
theorem ev_eqX {b : Bool} (h : Ev ta σ H (.str (sgS b))) (hx : Ev tb σ H (.str "x")) : Ev (tOp rEq ta tb) σ H (.bl b) := ev_is (ev_op h hx (rv_eq rfl)) (by rw [dec_x])
theorem ev_eqD {b : Bool} (h : Ev ta σ H (.str (sgS b))) (hx : Ev tb σ H (.str "-")) : Ev (tOp rEq ta tb) σ H (.bl (!b)) := ev_is (ev_op h hx (rv_eq rfl)) (by rw [dec_d])
theorem ev_neX {b : Bool} (h : Ev ta σ H (.str (sgS b))) (hx : Ev tb σ H (.str "x")) : Ev (tOp rNe ta tb) σ H (.bl (!b)) := ev_is (ev_op h hx (rv_ne rfl)) (by rw [dec_x])
theorem ev_neD {b : Bool} (h : Ev ta σ H (.str (sgS b))) (hx : Ev tb σ H (.str "-")) : Ev (tOp rNe ta tb) σ H (.bl b) := ev_is (ev_op h hx (rv_ne rfl)) (by rw [dec_d]; simp)
theorem ev_neSg {b c : Bool} (h : Ev ta σ H (.str (sgS b))) (hx : Ev tb σ H (.str (sgS c))) : Ev (tOp rNe ta tb) σ H (.bl (b != c)) := ev_is (ev_op h hx (rv_ne rfl)) (by rw [dec_sg]; rfl)
/-! comparisons of ints -/
theorem dec_int' {i j : Int} : decide (V.int i = V.int j) = decide (i = j) := by
  by_cases h : i = j
  · subst h; simp
  · have : ¬ V.int i = V.int j := fun e => h (V.int.inj e)
    simp [h]
theorem ev_eqI {i j : Int} (h : Ev ta σ H (.int i)) (hx : Ev tb σ H (.int j)) : Ev (tOp rEq ta tb) σ H (.bl (decide (i = j))) := ev_is (ev_op h hx (rv_eq rfl)) (by rw [dec_int'])
theorem ev_neI {i j : Int} (h : Ev ta σ H (.int i)) (hx : Ev tb σ H (.int j)) : Ev (tOp rNe ta tb) σ H (.bl (!decide (i = j))) := ev_is (ev_op h hx (rv_ne rfl)) (by rw [dec_int'])
theorem ev_isN {x : V} (h : Ev ta σ H x) (hb : Ev tb σ H .non) : Ev (tOp rIsN ta tb) σ H (.bl (decide (x = .non))) := ev_op h hb fun H1 _ _ q => ⟨rfl, q H1 (Ex.refl H1)⟩
theorem ev_mulA {i j : Int} (h : Ev ta σ H (.int i)) (hb : Ev tb σ H (.int j)) (hc : IntMulOk i j) : Ev (tOp rMulW ta tb) σ H (.int (i * j)) := ev_op h hb (rv_I hc)
theorem ev_fdiv {i j : Int} (h : Ev ta σ H (.int i)) (hb : Ev tb σ H (.int j)) (hc : CDiv i j) : Ev (tOp (rI CDiv fun i j => .int (i / j)) ta tb) σ H (.int (i / j)) := ev_op h hb (rv_I hc)
theorem ev_mod {i j : Int} (h : Ev ta σ H (.int i)) (hb : Ev tb σ H (.int j)) (hc : 0 < j) : Ev (tOp (rI (fun _ j => 0 < j) fun i j => .int (i % j)) ta tb) σ H (.int (i % j)) := ev_op h hb (rv_I hc)
/-! truth tests of any kind -/
theorem mul_small {i j : Int} (h : i.natAbs < 2 ^ 64 ∨ j.natAbs < 2 ^ 64) : IntMulOk i j := by
  rcases h with h | h
  · exact .of_left (intBits_le_64 (by omega) (by omega))
  · exact .of_right (intBits_le_64 (by omega) (by omega))
end
/-! ### isinstance, constants -/
theorem gconst {X : Cx} {x : Str} {i : Int} {pos : Pos} (h : ∃ t, X.mg x = some (.int i t)) (hg : Gl X x := by rfl) (hd : (x == ("__debug__" : Str)) = false := by decide) : PE X (.Name x pos) (tC (.int i)) := by
  obtain ⟨t, e⟩ := h
  exact pe_glob hg e ⟨t, rfl⟩ hd
theorem bty {X : Cx} {x : Str} {pos : Pos} (T : String) (hm : X.mg x = none) (hv : bootBuiltins x = some (.type T)) (hg : Gl X x := by rfl) (hn : x ≠ "__name__" := by decide) (hd : (x == ("__debug__" : Str)) = false := by decide) : PE X (.Name x pos) (tC (.ty T)) :=
  pe_bltn (v := .ty T) hg hm hv rfl hn hd
theorem mulok {a b : Int} {m n : Nat} (ha : a.natAbs < 2 ^ m) (hb : b.natAbs < 2 ^ n) (h : m + n ≤ 134217728 := by decide) : IntMulOk a b := by
  have k : ∀ (x : Int) (m : Nat), x.natAbs < 2 ^ m → Builtin.Int.intBits x ≤ m := fun x m hx => by
    unfold Builtin.Int.intBits
    split
    · omega
    · rename_i h0
      have h1 : x.natAbs ≠ 0 := by
        intro e
        apply h0
        first | exact e | (simp; omega) | omega
      have := (Nat.log2_lt h1).mpr hx
      omega
  exact IntMulOk.of_le (k a m ha) (k b n hb) h
theorem mul_bd {a b : Int} {m n : Nat} (ha : a.natAbs < 2 ^ m) (hb : b.natAbs < 2 ^ n) : (a * b).natAbs < 2 ^ (m + n) := by
  rw [Int.natAbs_mul, Nat.pow_add]
  exact Nat.mul_lt_mul'' ha hb
theorem deg_le (n : Nat) (k : Rel) (i : Nat) : deg n k i ≤ n := by
  have h : deg n k i ≤ sm n (fun _ => 1) := sm_le fun _ _ => b2_le _
  rw [sm_const] at h
  omega
section
variable {K : PySem.W.Frag} {σ : St} {H H0 : Hp} {ta tb te : TE} {a : Addr} {xs : List V}
theorem tyx_list (h : SqL K H a xs) : TyX K H (.ref a) (.type "list") := by
  rcases h with (h | ⟨o, h⟩) | ⟨o, its, n, h1, h2, _⟩
  · exact .base (.lst h)
  · exact .base (.frz h)
  · exact .kList h1 h2
theorem ev_isList (ha : Ev ta σ H (.ref a)) (h : SqL K H0 a xs) (e : Ex H0 H) : Ev (tCB (rIsi K) (tCons ta (tCons (tC (.ty "list")) tNil))) σ H (.bl true) :=
  ev_isi ha ev_c (fun H1 e1 => tyx_list (ex_l (e.trans e1) h)) (kit_ty (by decide +kernel))
theorem ev_isInt {i : Int} (ha : Ev ta σ H (.int i)) : Ev (tCB (rIsi K) (tCons ta (tCons (tC (.ty "int")) tNil))) σ H (.bl true) :=
  ev_isi ha ev_c (fun H1 e1 => .base (.int i)) (kit_ty (by decide +kernel))
theorem ev_isBoolI {i : Int} (ha : Ev ta σ H (.int i)) : Ev (tCB (rIsi K) (tCons ta (tCons (tC (.ty "bool")) tNil))) σ H (.bl false) :=
  ev_isi ha ev_c (fun H1 e1 => .base (.int i)) (kit_ty (by decide +kernel))
theorem ev_isBool {b : Bool} (ha : Ev ta σ H (.bl b)) : Ev (tCB (rIsi K) (tCons ta (tCons (tC (.ty "bool")) tNil))) σ H (.bl true) :=
  ev_isi ha ev_c (fun H1 e1 => .base (.bl b)) (kit_ty (by decide +kernel))
theorem ev_isStr {z : Str} (ha : Ev ta σ H (.str z)) : Ev (tCB (rIsi K) (tCons ta (tCons (tC (.ty "str")) tNil))) σ H (.bl true) :=
  ev_isi ha ev_c (fun H1 e1 => .base (.str z)) (kit_ty (by decide +kernel))
end
/-! ### what a call gives -/
section
variable {K : PySem.W.Frag} {σ : St} {H : Hp} {ta : TA} {vs : List V} {sp : Sp} {E : XK} {v : V}
theorem ev_hc (h : EvA ta σ H vs) (hs : SpV sp vs H v) : Ev (tCall sp [] E ta) σ H v := ev_call h (by rw [List.append_nil]; exact hs)
theorem el_hc {xs : List V} (h : EvA ta σ H vs) (hs : SpL sp vs H xs) : EvL (tCall sp [] E ta) σ H xs := el_call h (by rw [List.append_nil]; exact hs)
end
theorem bl_false {b : Bool} (h : b = false) {A : Prop} (hb : b = true) : A := by rw [h] at hb; cases hb
theorem bl_true {b : Bool} (h : b = true) {A : Prop} (hb : b = false) : A := by rw [h] at hb; cases hb
end AK

namespace AK
open PySem PySem.Spec PyProof.Rows L2 Evl Ak
/-! ### lists of new lists -/
/-- at l stands a list of the new lists at ps, what each holds told by g; H0 knows none of them -/
structure RowsP (H0 H : Hp) (l : Addr) (ps : List Addr) (g : Nat → List V) : Prop where
  nd : ps.Nodup
  nl : l ∉ ps
  fl : H0 l = none
  fp : ∀ p ∈ ps, H0 p = none
  hl : H l = some (.lst (ps.map V.ref))
  hp : ∀ i p, ps[i]? = some p → H p = some (.lst (g i))
section
variable {H0 H H' : Hp} {l p : Addr} {ps : List Addr} {g g' : Nat → List V} {xs : List V}
theorem RowsP.ex (r : RowsP H0 H l ps g) (e : Ex H H') : RowsP H0 H' l ps g := ⟨r.nd, r.nl, r.fl, r.fp, e _ _ r.hl, fun i q h => e _ _ (r.hp i q h)⟩
theorem RowsP.low {Hb : Hp} (r : RowsP H0 H l ps g) (e : Ex Hb H0) : RowsP Hb H l ps g := ⟨r.nd, r.nl, fresh_back e r.fl, fun p hp => fresh_back e (r.fp p hp), r.hl, r.hp⟩
theorem RowsP.congr (r : RowsP H0 H l ps g) (h : ∀ i, i < ps.length → g i = g' i) : RowsP H0 H l ps g' :=
  ⟨r.nd, r.nl, r.fl, r.fp, r.hl, fun i q e => by rw [← h i (List.getElem?_eq_some_iff.mp e).1]; exact r.hp i q e⟩
theorem RowsP.nil (h0 : H0 l = none) (h : H l = some (.lst [])) : RowsP H0 H l [] g :=
  ⟨List.nodup_nil, by simp, h0, by simp, h, fun i q e => by simp at e⟩
/-- another object changes -/
theorem RowsP.keep {o : HO} (r : RowsP H0 H l ps g) (h1 : p ≠ l) (h2 : p ∉ ps) : RowsP H0 (upd H p o) l ps g :=
  ⟨r.nd, r.nl, r.fl, r.fp, by rw [upd_ne h1.symm]; exact r.hl, fun i q e => by
    have : q ≠ p := fun z => h2 (z ▸ List.mem_of_getElem? e)
    rw [upd_ne this]; exact r.hp i q e⟩
theorem RowsP.ne (r : RowsP H0 H l ps g) (h : H p = none) : p ≠ l ∧ p ∉ ps := by
  refine ⟨fun z => ?_, fun z => ?_⟩
  · rw [z, r.hl] at h; cases h
  · obtain ⟨i, hi⟩ := List.getElem?_of_mem z
    rw [r.hp i p hi] at h; cases h
theorem RowsP.app (r : RowsP H0 H l ps g) (h0 : H0 p = none) (h1 : p ≠ l) (h2 : p ∉ ps) (hp : H p = some (.lst xs)) :
    RowsP H0 (upd H l (.lst (ps.map V.ref ++ [.ref p]))) l (ps ++ [p]) (fun i => if i < ps.length then g i else xs) := by
  refine ⟨?_, ?_, r.fl, ?_, ?_, ?_⟩
  · rw [List.nodup_append]
    exact ⟨r.nd, by simp, fun a ha b hb => by
      have : b = p := by simpa using hb
      subst this
      exact fun z => h2 (z ▸ ha)⟩
  · rw [List.mem_append, List.mem_singleton]
    rintro (z | z)
    · exact r.nl z
    · exact h1 z.symm
  · intro q hq
    rcases List.mem_append.mp hq with z | z
    · exact r.fp q z
    · rw [List.mem_singleton.mp z]; exact h0
  · rw [upd_same, List.map_append]; rfl
  · intro i q e
    by_cases hi : i < ps.length
    · rw [List.getElem?_append_left hi] at e
      have : q ≠ l := fun z => r.nl (z ▸ List.mem_of_getElem? e)
      simp only [if_pos hi]
      rw [upd_ne this]; exact r.hp i q e
    · rw [List.getElem?_append_right (by omega)] at e
      have hi2 : i - ps.length = 0 := by
        have := (List.getElem?_eq_some_iff.mp e).1
        simp at this; omega
      rw [hi2] at e
      have : p = q := by simpa using e
      subst this
      simp only [if_neg hi]
      rw [upd_ne h1]; exact hp
theorem RowsP.set (r : RowsP H0 H l ps g) {i : Nat} (h : ps[i]? = some p) (ys : List V) : RowsP H0 (upd H p (.lst ys)) l ps (fun a => if a = i then ys else g a) := by
  have hpl : p ≠ l := fun z => r.nl (z ▸ List.mem_of_getElem? h)
  refine ⟨r.nd, r.nl, r.fl, r.fp, by rw [upd_ne hpl.symm]; exact r.hl, fun j q e => ?_⟩
  by_cases hj : j = i
  · subst hj
    have : p = q := Option.some.inj (h.symm.trans e)
    subst this
    rw [upd_same, if_pos rfl]
  · have : q ≠ p := fun z => hj (nd_ix r.nd e (z ▸ h))
    rw [upd_ne this, if_neg hj]; exact r.hp j q e
end
section
variable {K : PySem.W.Frag} {σ : St} {H H0 H' : Hp} {ta tb tc te tl : TE} {tz : TS} {D : Ends} {l : Addr} {ps : List Addr} {g : Nat → List V}
/-- xs[i][j] = e, xs a list of new lists -/
theorem q_setRow {i j : Nat} {v : V} (r : RowsP H0 H l ps g) (hv : Ev te σ H v) (hl : Ev ta σ H (.ref l)) (hi : Ev tb σ H (.int (i : Nat))) (hj : Ev tc σ H (.int (j : Nat))) (hi' : i < ps.length) (hj' : j < (g i).length)
    (k : ∀ H1, Ex H H1 → ∀ p, ps[i]? = some p → H0 p = none → RowsP H0 (upd H1 p (.lst ((g i).set j v))) l ps (fun a => if a = i then (g i).set j v else g a) → tz D σ (upd H1 p (.lst ((g i).set j v)))) :
    tSeq (tAsg te (gSub (tOp (rIxL K) ta tb) tc rSetL)) tz D σ H := by
  obtain ⟨p, hp⟩ : ∃ p, ps[i]? = some p := ⟨ps[i], by simp [hi']⟩
  have h1 : atI (ps.map V.ref) (i : Int) = some (V.ref p) := atI_nat (by rw [List.getElem?_map, hp]; rfl)
  refine q_setL (xs := g i) (j := j) (r.hp i p hp) hv (ev_op hl hi (rv_ixL (SqL.of r.hl) h1)) hj hj' fun H1 e1 => ?_
  exact k H1 e1 p hp (r.fp p (List.mem_of_getElem? hp)) ((r.ex e1).set hp _)
theorem s_setRow {i j : Nat} {v : V} (r : RowsP H0 H l ps g) (hv : Ev te σ H v) (hl : Ev ta σ H (.ref l)) (hi : Ev tb σ H (.int (i : Nat))) (hj : Ev tc σ H (.int (j : Nat))) (hi' : i < ps.length) (hj' : j < (g i).length)
    (k : ∀ H1, Ex H H1 → ∀ p, ps[i]? = some p → H0 p = none → RowsP H0 (upd H1 p (.lst ((g i).set j v))) l ps (fun a => if a = i then (g i).set j v else g a) → D.nx σ (upd H1 p (.lst ((g i).set j v)))) :
    tAsg te (gSub (tOp (rIxL K) ta tb) tc rSetL) D σ H := by
  obtain ⟨p, hp⟩ : ∃ p, ps[i]? = some p := ⟨ps[i], by simp [hi']⟩
  have h1 : atI (ps.map V.ref) (i : Int) = some (V.ref p) := atI_nat (by rw [List.getElem?_map, hp]; rfl)
  refine s_setL (xs := g i) (j := j) (r.hp i p hp) hv (ev_op hl hi (rv_ixL (SqL.of r.hl) h1)) hj hj' fun H1 e1 => ?_
  exact k H1 e1 p hp (r.fp p (List.mem_of_getElem? hp)) ((r.ex e1).set hp _)
end
/-! ### signs in rows of new lists -/
def sgRow (n : Nat) (f : Nat → Bool) : List V := (List.range n).map fun j => V.str (sgS (f j))
theorem sgRow_len (n : Nat) (f : Nat → Bool) : (sgRow n f).length = n := by simp [sgRow]
theorem sgRow_set {n : Nat} {f : Nat → Bool} (j : Nat) (b : Bool) : (sgRow n f).set j (V.str (sgS b)) = sgRow n (fun a => if a = j then b else f a) := by
  apply List.ext_getElem?
  intro i
  unfold sgRow
  rw [List.getElem?_set]
  by_cases hi : i < n
  · by_cases hj : j = i
    · subst hj; simp [hi]
    · rw [if_neg hj]
      have : ¬ i = j := fun z => hj z.symm
      simp [hi, this]
  · simp [hi]; omega
theorem sgRow_congr {n : Nat} {f f' : Nat → Bool} (h : ∀ i, i < n → f i = f' i) : sgRow n f = sgRow n f' :=
  List.map_congr_left fun i hi => by rw [h i (List.mem_range.mp hi)]
theorem rep_row (n : Nat) : (List.replicate (n : Int).toNat [V.str "-"]).flatten = sgRow n fun _ => false := by
  have e : (n : Int).toNat = n := by omega
  rw [e]
  unfold sgRow
  induction n with
  | zero => rfl
  | succ n ih =>
    rw [List.replicate_succ', List.flatten_append, ih (by omega), List.range_succ, List.map_append]
    have : V.str (sgS false) = V.str "-" := by rw [sgS_d]
    simp [this]
section
variable {K : PySem.W.Frag} {σ : St} {H H0 H' : Hp} {ta tb te tl : TE} {tz : TS} {D : Ends}
theorem el_repR {n : Nat} (h : EvL ta σ H [V.str "-"]) (hb : ∀ H1, Ex H H1 → Ev tb σ H1 (.int (n : Nat))) (hn : n ≤ 100000) : EvL (tOp rRep ta tb) σ H (sgRow n fun _ => false) := fun H1 e Q q =>
  h H1 e _ fun p H2 hp0 e2 hp => hb H2 (e.trans e2) H2 (Ex.refl _) _ fun H3 e3 => ⟨p, n, _, rfl, rfl, e3 _ _ hp, by omega, by omega, by simp; exact sz_of hn, fun r hr => by
    rw [rep_row]
    exact q r _ (fresh_back (e2.trans e3) hr) ((e2.trans e3).trans (Ex.new hr)) upd_same⟩
/-- a comprehension whose elements are new lists -/
def EvR (te : TE) (σ : St) (H : Hp) (n : Nat) (g : Nat → List V) : Prop := ∀ H1, Ex H H1 → ∀ Q : VK, (∀ l ps H2, Ex H1 H2 → ps.length = n → RowsP H1 H2 l ps g → Q (.ref l) H2) → te σ H1 Q
theorem er_lc {wi : TI} {n j : Nat} {it : Nat → V} {vs : List Nat} (g : Nat → List V) (h : EvW wi σ H H n it) (hn : n < 50000) (hw : ∀ x, wipe ((wipe σ vs).set j (some x)) vs = wipe σ vs)
    (he : ∀ i H1, Ex H H1 → i < n → EvL te ((wipe σ vs).set j (some (it i))) H1 (g i)) : EvR (tLc wi (gName j) tYes te vs) σ H n g := fun H0 e Q q => h H0 e _ fun J H1 e1 W Dl hD =>
  ⟨fun i m H' => m = n - i ∧ i ≤ n ∧ Ex H1 H' ∧ ∃ ps, ps.length = i ∧ RowsP H1 H' Dl ps g, ⟨n, by simp, Nat.zero_le _, Ex.new hD, [], rfl, .nil hD upd_same⟩, by
    rintro i m H' ⟨rfl, hi, ex, ps, hps, r⟩
    have ex' := (e.trans e1).trans ex
    by_cases hlt : i < n
    · refine .inr ⟨W.goes i H' ex' hlt, fun H3 => i + 1 ≤ n ∧ Ex H1 H3 ∧ ∃ ps, ps.length = i + 1 ∧ RowsP H1 H3 Dl ps g, fun H3 p' => ⟨n - (i + 1), by omega, rfl, p'⟩, fun x H3 y => ?_⟩
      obtain ⟨e2, e3⟩ := W.yields i H' x H3 ex' hlt y
      subst e2 e3
      refine ⟨hw _, ?_⟩
      show te _ _ _
      refine he i H1 (e.trans e1) hlt H3 ex _ fun p H4 hp e4 hl4 => ?_
      have r4 := r.ex e4
      obtain ⟨n1, n2⟩ := r.ne hp
      refine ⟨_, r4.hl, by simp [hps]; exact sz_lt (by omega), hlt, Ex.mut (ex.trans e4) r.fl, ps ++ [p], by simp [hps], ?_⟩
      refine (r4.app (fresh_back ex hp) n1 n2 hl4).congr fun a ha => ?_
      by_cases c : a < ps.length
      · rw [if_pos c]
      · rw [if_neg c]
        have : a = i := by simp at ha; omega
        rw [this]
    · have e2 : i = n := by omega
      subst e2
      exact .inl ⟨W.stops H' ex', q Dl ps H' (e1.trans ex) hps (r.low e1)⟩⟩
theorem q_asgR {n i : Nat} {g : Nat → List V} (h : EvR te σ H n g) (k : ∀ l ps H1, Ex H H1 → ps.length = n → RowsP H H1 l ps g → tz D (σ.set i (some (.ref l))) H1) : tSeq (tAsg te (gName i)) tz D σ H :=
  h H (Ex.refl H) _ fun l ps H1 e hps r => k l ps H1 e hps r
/-- ["".join(row) for row in rows] -/
theorem el_joinRows {n j : Nat} {vs : List Nat} {l : Addr} {ps : List Addr} {k : Rel} (r : RowsP H0 H l ps (fun i => sgRow n (k i))) (hps : ps.length = n) (hn : n ≤ 200) (hl : Ev tl σ H (.ref l)) (hw : ∀ x, wipe ((wipe σ vs).set j (some x)) vs = wipe σ vs) (hj : ∀ x, ((wipe σ vs).set j (some x))[j]? = some (some x)) :
    EvL (tLc (iList K tl) (gName j) tYes (tBM K "str" (rJoinQ K) (tC (.str "")) (tCons (tVar j) tNil)) vs) σ H (webV n k) := by
  have e1 := el_map (wi := iList K tl) (te := tBM K "str" (rJoinQ K) (tC (.str "")) (tCons (tVar j) tNil)) (j := j) (vs := vs) (fun i => V.str (rowS n (k i))) (ew_list (K := K) hl (SqL.of r.hl) (Ex.refl _)) (by simp; omega) hw fun i H1 e1 hi => by
    have hi' : i < ps.length := by simpa using hi
    have e2 : (ps.map V.ref).getD i .non = V.ref ps[i] := by simp [hi']
    rw [e2]
    exact ev_joinRowL ev_c (ev_var (hj _)) (SqL.of (r.hp i ps[i] (by simp [hi']))) e1 hn
  rw [List.length_map, hps] at e1
  exact e1
end
end AK

/-! Ak: the web with the fewest; the law's own formula. Plain Lean. -/
namespace Ak
theorem sm_split (f : Nat → Int) (a : Nat) : ∀ b : Nat, sm (a + b) f = sm a f + sm b (fun j => f (a + j))
  | 0 => by simp [sm]
  | b + 1 => by
    show sm (a + b) f + f (a + b) = sm a f + (sm b (fun j => f (a + j)) + f (a + b))
    rw [sm_split f a b]; omega
/-- places from a on, below b -/
theorem sm_between (a b : Nat) : ∀ n : Nat, sm n (fun j => b2 (decide (a ≤ j ∧ j < b))) = (min n b - min n a : Nat)
  | 0 => by simp [sm]
  | n + 1 => by
    show sm n _ + b2 (decide (a ≤ n ∧ n < b)) = _
    rw [sm_between a b n]
    by_cases h : a ≤ n ∧ n < b
    · rw [decide_eq_true h]
      show _ + 1 = _
      omega
    · rw [decide_eq_false h]
      show _ + 0 = _
      omega
theorem sm_is (p : Nat) (n : Nat) (h : p < n) : sm n (fun j => b2 (decide (j = p))) = 1 := by
  have e := sm_between p (p + 1) n
  have e2 : sm n (fun j => b2 (decide (j = p))) = sm n (fun j => b2 (decide (p ≤ j ∧ j < p + 1))) := sm_congr fun j _ => by
    congr 1
    exact decide_eq_decide.mpr ⟨fun h => by omega, fun h => by omega⟩
  rw [e2, e]; omega
/-- a turn of the places -/
theorem sm_rot (F : Nat → Int) (n i : Nat) (hi : i ≤ n) : sm n (fun j => if j < i then F (j + n - i) else F (j - i)) = sm n F := by
  have e1 := sm_split (fun j => if j < i then F (j + n - i) else F (j - i)) i (n - i)
  have e2 := sm_split F (n - i) i
  rw [show i + (n - i) = n by omega] at e1
  rw [show n - i + i = n by omega] at e2
  rw [e1, e2]
  have a1 : sm i (fun j => if j < i then F (j + n - i) else F (j - i)) = sm i (fun j => F (n - i + j)) := sm_congr fun j hj => by
    rw [if_pos hj]; congr 1; omega
  have a2 : sm (n - i) (fun j => (fun j => if j < i then F (j + n - i) else F (j - i)) (i + j)) = sm (n - i) F := sm_congr fun j hj => by
    show (if i + j < i then _ else F (i + j - i)) = F j
    rw [if_neg (by omega)]; congr 1; omega
  rw [a1, a2]; omega
/-- how far apart in the ring -/
def apart (n : Int) (i j : Int) : Int := if (j - i) % n < (i - j) % n then (j - i) % n else (i - j) % n
/-- known in the ring of n, to near -/
def ringK (n near : Int) (i j : Nat) : Bool := decide (0 < apart n i j) && decide (apart n i j ≤ near)
def evenK (half : Int) (i j : Nat) : Bool := decide ((i : Int) / half = (j : Int) / half) && !decide ((i : Int) = (j : Int))
/-- the pairs of the last loop, s of them -/
def mA (n s : Nat) : Nat := if s = 0 then 0 else n - s
def mB (n s : Nat) : Nat := n / 2 - s
def mtS (n : Nat) : Nat → Rel
  | 0 => fun _ _ => false
  | s + 1 => fun i j => mtS n s i j || (decide (i = mA n s) && decide (j = mB n s)) || (decide (i = mB n s) && decide (j = mA n s))
def wof0 (n : Nat) : Rel := fun i j => if (n : Int) % 2 = 0 then evenK ((n : Int) / 2) i j else ringK n ((n : Int) / 4) i j
def wofK (n : Nat) : Rel := fun i j => wof0 n i j || (decide ((n : Int) % 4 = 3) && mtS n (n / 2) i j)
theorem mtS_iff (n : Nat) (i j : Nat) : ∀ s, mtS n s i j = true ↔ ∃ t, t < s ∧ ((i = mA n t ∧ j = mB n t) ∨ (i = mB n t ∧ j = mA n t))
  | 0 => by simp [mtS]
  | s + 1 => by
    have ih := mtS_iff n i j s
    show (mtS n s i j || (decide (i = mA n s) && decide (j = mB n s)) || (decide (i = mB n s) && decide (j = mA n s))) = true ↔ _
    simp only [Bool.or_eq_true, Bool.and_eq_true, decide_eq_true_eq, ih]
    constructor
    · rintro ((⟨t, h, q⟩ | q) | q)
      · exact ⟨t, by omega, q⟩
      · exact ⟨s, by omega, .inl q⟩
      · exact ⟨s, by omega, .inr q⟩
    · rintro ⟨t, h, q⟩
      by_cases e : t = s
      · subst e
        rcases q with q | q
        · exact .inl (.inr q)
        · exact .inr q
      · exact .inl (.inl ⟨t, by omega, q⟩)
theorem apart_comm (n i j : Int) : apart n i j = apart n j i := by
  unfold apart
  split <;> split <;> omega
theorem ring_sym (n near : Int) (i j : Nat) : ringK n near i j = ringK n near j i := by
  unfold ringK
  rw [apart_comm]
theorem ring_irr (n near : Int) (i : Nat) : ringK n near i i = false := by
  have e : apart n i i = 0 := by
    unfold apart
    rw [Int.sub_self, Int.zero_emod]; rfl
  unfold ringK
  rw [e]; rfl
theorem even_sym (h : Int) (i j : Nat) : evenK h i j = evenK h j i := by
  unfold evenK
  have e1 : decide ((i : Int) / h = (j : Int) / h) = decide ((j : Int) / h = (i : Int) / h) := decide_eq_decide.mpr eq_comm
  have e2 : decide ((i : Int) = (j : Int)) = decide ((j : Int) = (i : Int)) := decide_eq_decide.mpr eq_comm
  rw [e1, e2]
theorem even_irr (h : Int) (i : Nat) : evenK h i i = false := by unfold evenK; simp
theorem mtS_sym (n s i j : Nat) : mtS n s i j = mtS n s j i := by
  have h1 := mtS_iff n i j s
  have h2 := mtS_iff n j i s
  have e : mtS n s i j = true ↔ mtS n s j i = true := by
    rw [h1, h2]
    exact ⟨fun ⟨t, a, b⟩ => ⟨t, a, b.symm.imp (fun q => ⟨q.2, q.1⟩) (fun q => ⟨q.2, q.1⟩)⟩, fun ⟨t, a, b⟩ => ⟨t, a, b.symm.imp (fun q => ⟨q.2, q.1⟩) (fun q => ⟨q.2, q.1⟩)⟩⟩
  cases x : mtS n s i j <;> cases y : mtS n s j i <;> simp [x, y] at e ⊢
theorem mt_part {n : Nat} (h4 : n % 4 = 3) {i j : Nat} (hi : i < n) : mtS n (n / 2) i j = true ↔ i ≠ n / 2 + 1 ∧ j = (if i = 0 then n / 2 else if i = n / 2 then 0 else if i < n / 2 then i + n / 2 + 1 else i - (n / 2 + 1)) := by
  rw [mtS_iff]
  have hh : n = 2 * (n / 2) + 1 := by omega
  generalize n / 2 = h at hh ⊢
  unfold mA mB
  have eh : n / 2 = h := by omega
  rw [eh]
  constructor
  · rintro ⟨t, ht, ⟨e1, e2⟩ | ⟨e1, e2⟩⟩
    · split at e1
      · subst e1; constructor
        · omega
        · rw [if_pos rfl]; omega
      · constructor
        · omega
        · rw [if_neg (by omega), if_neg (by omega), if_neg (by omega)]; omega
    · split at e2
      · subst e2; constructor
        · omega
        · rw [if_neg (by omega), if_pos (by omega)]
      · constructor
        · omega
        · rw [if_neg (by omega), if_neg (by omega), if_pos (by omega)]; omega
  · rintro ⟨h1, e⟩
    split at e
    · exact ⟨0, by omega, .inl ⟨by rw [if_pos rfl]; omega, by omega⟩⟩
    · split at e
      · exact ⟨0, by omega, .inr ⟨by omega, by rw [if_pos rfl]; omega⟩⟩
      · split at e
        · exact ⟨h - i, by omega, .inr ⟨by omega, by rw [if_neg (by omega)]; omega⟩⟩
        · exact ⟨n - i, by omega, .inl ⟨by rw [if_neg (by omega)]; omega, by omega⟩⟩
theorem mt_irr {n : Nat} (h4 : n % 4 = 3) {i : Nat} (hi : i < n) : mtS n (n / 2) i i = false := by
  cases e : mtS n (n / 2) i i with
  | false => rfl
  | true =>
    obtain ⟨h1, h2⟩ := (mt_part h4 hi).mp e
    split at h2
    · omega
    · split at h2
      · omega
      · split at h2 <;> omega
theorem wofK_w (n : Nat) : IsW n (wofK n) := by
  refine ⟨fun i j hi hj => ?_, fun i hi => ?_⟩
  · show (wof0 n i j || _) = (wof0 n j i || _)
    rw [mtS_sym]
    unfold wof0
    split
    · rw [even_sym]
    · rw [ring_sym]
  · show (wof0 n i i || (decide ((n : Int) % 4 = 3) && mtS n (n / 2) i i)) = false
    have e0 : wof0 n i i = false := by
      unfold wof0
      split
      · exact even_irr _ _
      · exact ring_irr _ _ _
    rw [e0]
    by_cases h : (n : Int) % 4 = 3
    · rw [mt_irr (by omega) hi]; simp
    · simp [h]
theorem apart_at {n i j : Nat} (hi : i < n) (hj : j < n) : apart n i j = if j < i then (if (j + n - i : Nat) < (i - j : Nat) then ((j + n - i : Nat) : Int) else ((i - j : Nat) : Int)) else (if (j - i : Nat) = 0 then 0 else if (j - i : Nat) < (n - (j - i) : Nat) then ((j - i : Nat) : Int) else ((n - (j - i) : Nat) : Int)) := by
  unfold apart
  by_cases h : j < i
  · rw [if_pos h]
    have e1 : ((j : Int) - i) % n = ((j + n - i : Nat) : Int) := by
      have : (j : Int) - i = ((j + n - i : Nat) : Int) + n * (-1) := by omega
      rw [this, Int.add_mul_emod_self_left]
      exact Int.emod_eq_of_lt (by omega) (by omega)
    have e2 : ((i : Int) - j) % n = ((i - j : Nat) : Int) := by
      have : (i : Int) - j = ((i - j : Nat) : Int) := by omega
      rw [this]
      exact Int.emod_eq_of_lt (by omega) (by omega)
    rw [e1, e2]
    split <;> split <;> omega
  · rw [if_neg h]
    have e1 : ((j : Int) - i) % n = ((j - i : Nat) : Int) := by
      have : (j : Int) - i = ((j - i : Nat) : Int) := by omega
      rw [this]
      exact Int.emod_eq_of_lt (by omega) (by omega)
    by_cases h0 : j - i = 0
    · rw [if_pos h0]
      have : (i : Int) - j = 0 := by omega
      have : (j : Int) - i = 0 := by omega
      simp [*]
    · rw [if_neg h0]
      have e2 : ((i : Int) - j) % n = ((n - (j - i) : Nat) : Int) := by
        have : (i : Int) - j = ((n - (j - i) : Nat) : Int) + n * (-1) := by omega
        rw [this, Int.add_mul_emod_self_left]
        exact Int.emod_eq_of_lt (by omega) (by omega)
      rw [e1, e2]
      split <;> split <;> omega
theorem ring_deg {n near i : Nat} (hi : i < n) (hn : 2 * near < n) : sm n (fun j => b2 (ringK n near i j)) = 2 * near := by
  have e : sm n (fun j => b2 (ringK n near i j)) = sm n (fun j => if j < i then (fun r => b2 (decide (1 ≤ r ∧ r < near + 1)) + b2 (decide (n - near ≤ r ∧ r < n))) (j + n - i) else (fun r => b2 (decide (1 ≤ r ∧ r < near + 1)) + b2 (decide (n - near ≤ r ∧ r < n))) (j - i)) := sm_congr fun j hj => by
    unfold ringK
    rw [apart_at hi hj]
    have tt : b2 true = 1 := rfl
    have ff : b2 false = 0 := rfl
    have key : ∀ (a : Int) (r : Nat), r < n → ((0 < a ∧ a ≤ near) ↔ (1 ≤ r ∧ r < near + 1) ∨ (n - near ≤ r ∧ r < n)) → b2 (decide (0 < a) && decide (a ≤ near)) = b2 (decide (1 ≤ r ∧ r < near + 1)) + b2 (decide (n - near ≤ r ∧ r < n)) := by
      intro a r hr h
      rw [← Bool.decide_and]
      by_cases h1 : 1 ≤ r ∧ r < near + 1
      · rw [decide_eq_true h1, decide_eq_false (show ¬ (n - near ≤ r ∧ r < n) by omega), decide_eq_true (h.mpr (.inl h1))]; rfl
      · by_cases h2 : n - near ≤ r ∧ r < n
        · rw [decide_eq_false h1, decide_eq_true h2, decide_eq_true (h.mpr (.inr h2))]; rfl
        · rw [decide_eq_false h1, decide_eq_false h2, decide_eq_false (fun q => (h.mp q).elim h1 h2)]; rfl
    split
    · refine key _ _ (by omega) ?_
      split <;> omega
    · refine key _ _ (by omega) ?_
      split
      · omega
      · split <;> omega
  refine e.trans ((sm_rot (fun r => b2 (decide (1 ≤ r ∧ r < near + 1)) + b2 (decide (n - near ≤ r ∧ r < n))) n i (by omega)).trans ?_)
  rw [sm_add, sm_between, sm_between]
  omega
theorem even_deg {u i : Nat} (hi : i < 2 * u) : sm (2 * u) (fun j => b2 (evenK u i j)) = u - 1 := by
  have hu : 0 < u := by omega
  have dv : ∀ j : Nat, j < 2 * u → ((j : Int) / u = if j < u then 0 else 1) := by
    intro j hj
    split
    · exact Int.ediv_eq_zero_of_lt (by omega) (by omega)
    · have : (j : Int) = (j - u : Nat) + u * 1 := by omega
      rw [this, Int.add_mul_ediv_left _ _ (by omega), Int.ediv_eq_zero_of_lt (by omega) (by omega)]; rfl
  have e : sm (2 * u) (fun j => b2 (evenK u i j)) = sm (2 * u) (fun j => if j = i then 0 else b2 (decide ((if i < u then 0 else u) ≤ j ∧ j < (if i < u then u else 2 * u)))) := sm_congr fun j hj => by
    unfold evenK
    rw [dv i hi, dv j hj]
    by_cases c : j = i
    · subst c; simp [b2]
    · rw [if_neg c]
      have c' : ¬ ((i : Int) = (j : Int)) := by omega
      rw [decide_eq_false c', Bool.not_false, Bool.and_true]
      congr 1
      refine decide_eq_decide.mpr ?_
      split <;> split <;> omega
  rw [e, sm_but i _ _ hi, sm_between]
  have : b2 (decide ((if i < u then 0 else u) ≤ i ∧ i < (if i < u then u else 2 * u))) = 1 := by
    rw [decide_eq_true]
    · rfl
    · split <;> omega
  rw [this]
  split <;> omega
theorem b2_or {a b : Bool} (h : ¬ (a = true ∧ b = true)) : b2 (a || b) = b2 a + b2 b := by
  cases a <;> cases b <;> first | rfl | exact absurd ⟨rfl, rfl⟩ h
theorem wofK_alike (n : Nat) : alikeN n (wofK n) = fewestZ n := by
  have hg := goodman (wofK_w n)
  have h3 := n3_eq n
  unfold fewestZ
  by_cases c0 : (n : Int) % 2 = 0
  · rw [if_pos c0]
    obtain ⟨u, hu⟩ : ∃ u : Nat, n = 2 * u := ⟨n / 2, by omega⟩
    subst hu
    have hd : ∀ i, i < 2 * u → deg (2 * u) (wofK (2 * u)) i = u - 1 := fun i hi => by
      rw [← even_deg hi]
      refine sm_congr fun j hj => ?_
      congr 1
      show (wof0 (2 * u) i j || _) = _
      unfold wof0
      rw [if_pos c0, decide_eq_false (by omega), Bool.false_and, Bool.or_false]
      have : ((2 * u : Nat) : Int) / 2 = u := by omega
      rw [this]
    have hm : mixed (2 * u) (wofK (2 * u)) = ((2 * u : Nat) : Int) * ((u : Int) * ((u : Int) - 1)) := by
      rw [← sm_const]
      refine sm_congr fun i hi => ?_
      rw [hd i hi]
      have : ((2 * u : Nat) : Int) = 2 * (u : Int) := by omega
      rw [this]; grind
    rw [hm] at hg
    have e : ((2 * u : Nat) : Int) = 2 * (u : Int) := by omega
    rw [e] at hg h3 ⊢
    have key : 2 * (u : Int) * (2 * u - 2) * (2 * u - 4) = 24 * alikeN (2 * u) (wofK (2 * u)) := by grind
    rw [key]; omega
  · rw [if_neg c0]
    have base : ∀ i, i < n → sm n (fun j => b2 (wof0 n i j)) = 2 * ((n / 4 : Nat) : Int) := fun i hi => by
      rw [← ring_deg (near := n / 4) hi (by omega)]
      refine sm_congr fun j hj => ?_
      unfold wof0
      rw [if_neg c0]
      have : ((n : Nat) : Int) / 4 = ((n / 4 : Nat) : Int) := by omega
      rw [this]
    by_cases c1 : (n : Int) % 4 = 1
    · rw [if_pos c1]
      obtain ⟨u, hu⟩ : ∃ u : Nat, n = 4 * u + 1 := ⟨n / 4, by omega⟩
      have hn4 : n / 4 = u := by omega
      have hd : ∀ i, i < n → deg n (wofK n) i = 2 * u := fun i hi => by
        rw [hn4] at base
        rw [← base i hi]
        refine sm_congr fun j hj => ?_
        congr 1
        show (wof0 n i j || _) = _
        rw [decide_eq_false (by omega), Bool.false_and, Bool.or_false]
      have hm : mixed n (wofK n) = (n : Int) * ((2 * (u : Int)) * (2 * u)) := by
        rw [← sm_const]
        refine sm_congr fun i hi => ?_
        rw [hd i hi]
        have : (n : Int) = 4 * (u : Int) + 1 := by omega
        rw [this]; grind
      rw [hm] at hg
      have e : (n : Int) = 4 * (u : Int) + 1 := by omega
      rw [e] at hg h3 ⊢
      have key : (4 * (u : Int) + 1) * (4 * u + 1 - 1) * (4 * u + 1 - 5) = 24 * alikeN n (wofK n) := by grind
      rw [key]; omega
    · rw [if_neg c1]
      have h4 : n % 4 = 3 := by omega
      obtain ⟨u, hu⟩ : ∃ u : Nat, n = 4 * u + 3 := ⟨n / 4, by omega⟩
      have hn4 : n / 4 = u := by omega
      have hn2 : n / 2 = 2 * u + 1 := by omega
      have hd : ∀ i, i < n → deg n (wofK n) i = 2 * u + (if i = n / 2 + 1 then 0 else 1) := fun i hi => by
        rw [hn4] at base
        rw [← base i hi]
        have split2 : deg n (wofK n) i = sm n (fun j => b2 (wof0 n i j)) + sm n (fun j => b2 (mtS n (n / 2) i j)) := by
          rw [← sm_add]
          refine sm_congr fun j hj => ?_
          show b2 (wof0 n i j || (decide ((n : Int) % 4 = 3) && mtS n (n / 2) i j)) = _
          rw [decide_eq_true (show (n : Int) % 4 = 3 by omega), Bool.true_and]
          refine b2_or fun ⟨q1, q2⟩ => ?_
          obtain ⟨m1, m2⟩ := (mt_part h4 hi).mp q2
          unfold wof0 at q1
          rw [if_neg c0] at q1
          unfold ringK at q1
          rw [apart_at hi hj] at q1
          simp only [Bool.and_eq_true, decide_eq_true_eq] at q1
          have e4 : ((n : Nat) : Int) / 4 = u := by omega
          rw [e4] at q1
          rw [hn2] at m1 m2
          obtain ⟨q1, q3⟩ := q1
          split at m2
          · subst m2
            rw [if_neg (by omega), if_neg (by omega)] at q3
            split at q3 <;> omega
          · split at m2
            · subst m2
              rw [if_pos (by omega)] at q3
              split at q3 <;> omega
            · split at m2
              · rw [if_neg (by omega), if_neg (by omega)] at q3
                split at q3 <;> omega
              · rw [if_pos (by omega)] at q3
                split at q3 <;> omega
        rw [split2]
        congr 1
        by_cases c : i = n / 2 + 1
        · rw [if_pos c]
          have : sm n (fun j => b2 (mtS n (n / 2) i j)) = sm n (fun _ => 0) := sm_congr fun j hj => by
            cases e : mtS n (n / 2) i j with
            | false => rfl
            | true => exact absurd c ((mt_part h4 hi).mp e).1
          rw [this, sm_const]; omega
        · rw [if_neg c]
          generalize hp : (if i = 0 then n / 2 else if i = n / 2 then 0 else if i < n / 2 then i + n / 2 + 1 else i - (n / 2 + 1)) = p
          have hpn : p < n := by
            rw [← hp]
            split
            · omega
            · split
              · omega
              · split <;> omega
          rw [← sm_is p n hpn]
          refine sm_congr fun j hj => ?_
          have q := mt_part (j := j) h4 hi
          rw [hp] at q
          congr 1
          cases e : mtS n (n / 2) i j with
          | true => exact (decide_eq_true (q.mp e).2).symm
          | false =>
            refine (decide_eq_false fun z => ?_).symm
            rw [q.mpr ⟨c, z⟩] at e
            cases e
      have hm : mixed n (wofK n) = (n : Int) * ((2 * (u : Int) + 1) * (2 * u + 1)) - 1 := by
        have e1 : mixed n (wofK n) = sm n (fun i => if i = n / 2 + 1 then 0 else (2 * (u : Int) + 1) * (2 * u + 1)) + sm n (fun i => ((2 * (u : Int)) * (2 * u + 2)) * b2 (decide (i = n / 2 + 1))) := by
          rw [← sm_add]
          refine sm_congr fun i hi => ?_
          rw [hd i hi]
          have en : (n : Int) = 4 * (u : Int) + 3 := by omega
          rw [en]
          by_cases c : i = n / 2 + 1
          · rw [if_pos c, if_pos c, decide_eq_true c]
            show _ = 0 + (2 * (u : Int)) * (2 * u + 2) * 1
            grind
          · rw [if_neg c, if_neg c, decide_eq_false c]
            show _ = _ + (2 * (u : Int)) * (2 * u + 2) * 0
            grind
        rw [e1, sm_but (n / 2 + 1) (fun _ => (2 * (u : Int) + 1) * (2 * u + 1)) n (by omega), sm_const, sm_mul, sm_is _ _ (by omega)]
        grind
      rw [hm] at hg
      have e : (n : Int) = 4 * (u : Int) + 3 := by omega
      rw [e] at hg h3 ⊢
      have key : (4 * (u : Int) + 3 + 1) * (4 * u + 3 - 3) * (4 * u + 3 - 4) = 24 * alikeN n (wofK n) := by grind
      rw [key]; omega
/-- the law's own -/
def lawFew (n : Int) : Int :=
  let half := (n - 1) / 2
  let m0 := n * half * (n - 1 - half)
  let m1 := if n % 4 = 3 then m0 - half * half + (half - 1) * (n - half) else m0
  (n * (n - 1) * (n - 2) / 3 - m1) / 2
theorem lawFew_eq (n : Nat) : lawFew n = fewestZ n := by
  have hg := goodman (wofK_w n)
  have h3 := n3_eq n
  have hf := wofK_alike n
  have e3 : (n : Int) * (n - 1) * (n - 2) / 3 = 2 * n3 n := by rw [← h3]; omega
  unfold lawFew
  simp only
  rw [e3]
  unfold fewestZ
  by_cases c0 : (n : Int) % 2 = 0
  · obtain ⟨u, hu⟩ : ∃ u : Int, (n : Int) = 2 * u := ⟨n / 2, by omega⟩
    have eh : ((n : Int) - 1) / 2 = u - 1 := by omega
    rw [if_pos c0, if_neg (by omega), eh]
    rw [hu] at h3 ⊢
    have key : 2 * u * (2 * u - 2) * (2 * u - 4) = 12 * (2 * n3 n - 2 * u * (u - 1) * (2 * u - 1 - (u - 1))) := by grind
    rw [key]; omega
  · rw [if_neg c0]
    by_cases c1 : (n : Int) % 4 = 1
    · obtain ⟨u, hu⟩ : ∃ u : Int, (n : Int) = 4 * u + 1 := ⟨n / 4, by omega⟩
      have eh : ((n : Int) - 1) / 2 = 2 * u := by omega
      rw [if_pos c1, if_neg (by omega), eh]
      rw [hu] at h3 ⊢
      have key : (4 * u + 1) * (4 * u + 1 - 1) * (4 * u + 1 - 5) = 12 * (2 * n3 n - (4 * u + 1) * (2 * u) * (4 * u + 1 - 1 - 2 * u)) := by grind
      rw [key]; omega
    · obtain ⟨u, hu⟩ : ∃ u : Int, (n : Int) = 4 * u + 3 := ⟨n / 4, by omega⟩
      have eh : ((n : Int) - 1) / 2 = 2 * u + 1 := by omega
      rw [if_neg c1, if_pos (by omega), eh]
      rw [hu] at h3 ⊢
      have key : (4 * u + 3 + 1) * (4 * u + 3 - 3) * (4 * u + 3 - 4) = 12 * (2 * n3 n - ((4 * u + 3) * (2 * u + 1) * (4 * u + 3 - 1 - (2 * u + 1)) - (2 * u + 1) * (2 * u + 1) + (2 * u + 1 - 1) * (4 * u + 3 - (2 * u + 1)))) := by grind
      rw [key]; omega
end Ak

namespace AK
open PySem PySem.Spec PyProof.Rows L2 Evl Ak
section
variable {K : PySem.W.Frag} {σ : St} {H H0 H' : Hp} {ta tb tc te tl : TE} {t : TT} {tz tu tw : TS} {D : Ends}
/-- a < b <= c, as a value -/
theorem ev_chain {f g : Int → Int → Bool} {i j k : Int} (ha : Ev ta σ H (.int i)) (hb : Ev tb σ H (.int j)) (hc : Ev tc σ H (.int k)) : Ev (tChain (rI0 fun i j => .bl (f i j)) (rI0 fun i j => .bl (g i j)) ta tb tc) σ H (.bl (f i j && g j k)) := fun H1 e Q q =>
  ha H1 e _ fun H2 e2 => hb H2 (e.trans e2) _ fun H3 e3 => ⟨i, j, rfl, rfl, f i j, rfl, by
    cases h : f i j with
    | true =>
      refine iteT ?_
      refine hc H3 ((e.trans e2).trans e3) _ fun H4 e4 => ⟨j, k, rfl, rfl, ?_⟩
      have := q H4 ((e2.trans e3).trans e4)
      rw [h] at this
      exact this
    | false =>
      refine iteF ?_
      have := q H3 (e2.trans e3)
      rw [h] at this
      exact this⟩
theorem ev_ifS {b : Bool} (h : EvT t σ H b) : Ev (tIf t (tC (.str "x")) (tC (.str "-"))) σ H (.str (sgS b)) := by
  cases b with
  | true => exact ev_if h (fun _ => ev_is ev_c (by rw [sgS_x])) (fun z => nomatch z)
  | false => exact ev_if h (fun z => nomatch z) (fun _ => ev_is ev_c (by rw [sgS_d]))
theorem ev_ifS' {b : Bool} (h : EvT t σ H b) : Ev (tIf t (tC (.str "-")) (tC (.str "x"))) σ H (.str (sgS (!b))) := by
  cases b with
  | true => exact ev_if h (fun _ => ev_is ev_c (by rw [← sgS_d]; rfl)) (fun z => nomatch z)
  | false => exact ev_if h (fun z => nomatch z) (fun _ => ev_is ev_c (by rw [← sgS_x]; rfl))
theorem q_par {ta : TA} {i j : Nat} {v w : V} (h : EvA ta σ H [v, w]) (k : ∀ H1, Ex H H1 → tz D ((σ.set i (some v)).set j (some w)) H1) : tSeq (tPar i j ta) tz D σ H :=
  h H (Ex.refl H) _ fun H1 e => ⟨v, w, rfl, k H1 e⟩
theorem s_par {ta : TA} {i j : Nat} {v w : V} (h : EvA ta σ H [v, w]) (k : ∀ H1, Ex H H1 → D.nx ((σ.set i (some v)).set j (some w)) H1) : tPar i j ta D σ H :=
  h H (Ex.refl H) _ fun H1 e => ⟨v, w, rfl, k H1 e⟩
theorem sgRow_succ (n : Nat) (f : Nat → Bool) : sgRow (n + 1) f = sgRow n f ++ [V.str (sgS (f n))] := by
  unfold sgRow
  rw [List.range_succ, List.map_append]; rfl
end
theorem mA_eq {n s : Nat} (h4 : n % 4 = 3) (hs : s < n / 2) : ((0 + (s : Int) * 2) * ((n : Int) / 2)) % n = (mA n s : Nat) := by
  have e : (0 + (s : Int) * 2) * ((n : Int) / 2) = -(s : Int) + n * s := by
    have : (n : Int) = 2 * ((n : Int) / 2) + 1 := by omega
    generalize (n : Int) / 2 = h at this ⊢
    rw [this]; grind
  rw [e, Int.add_mul_emod_self_left]
  unfold mA
  split
  · rename_i h
    rw [h]; rfl
  · have : -(s : Int) = ((n - s : Nat) : Int) + n * (-1) := by omega
    rw [this, Int.add_mul_emod_self_left]
    exact Int.emod_eq_of_lt (by omega) (by omega)
theorem mB_eq {n s : Nat} (h4 : n % 4 = 3) (hs : s < n / 2) : ((0 + (s : Int) * 2 + 1) * ((n : Int) / 2)) % n = (mB n s : Nat) := by
  have e : (0 + (s : Int) * 2 + 1) * ((n : Int) / 2) = ((n : Int) / 2 - s) + n * s := by
    have : (n : Int) = 2 * ((n : Int) / 2) + 1 := by omega
    generalize (n : Int) / 2 = h at this ⊢
    rw [this]; grind
  rw [e, Int.add_mul_emod_self_left]
  unfold mB
  have : (n : Int) / 2 - s = ((n / 2 - s : Nat) : Int) := by omega
  rw [this]
  exact Int.emod_eq_of_lt (by omega) (by omega)
theorem rg_two {n : Nat} (h4 : n % 4 = 3) (hn : n ≤ 200) : RgC 0 ((n : Int) - 1) 2 (n / 2) := by
  have e : Builtin.Range.rangeSize 0 ((n : Int) - 1) 2 = (n / 2 : Nat) := by
    unfold Builtin.Range.rangeSize
    rw [if_pos (by decide), if_pos (by omega)]
    omega
  refine ⟨by decide, by decide, ?_, e⟩
  unfold Builtin.Range.small
  rw [e]
  simp only [Builtin.Range.rangeFitsLong, Bool.and_eq_true, Bool.or_eq_true, decide_eq_true_eq, beq_iff_eq, show (2 : Int) > 0 by decide, if_true]
  omega
/-! ### sizes in bits -/
def Bt (m : Nat) (x : Int) : Prop := x.natAbs < 2 ^ m
theorem Bt.mono {m n : Nat} {x : Int} (h : Bt m x) (hm : m ≤ n) : Bt n x := Nat.lt_of_lt_of_le h (Nat.pow_le_pow_right (by decide) hm)
theorem Bt.add {m : Nat} {x y : Int} (h : Bt m x) (h2 : Bt m y) : Bt (m + 1) (x + y) := by
  unfold Bt at *
  rw [Nat.pow_succ]
  have := Int.natAbs_add_le x y
  omega
theorem Bt.sub {m : Nat} {x y : Int} (h : Bt m x) (h2 : Bt m y) : Bt (m + 1) (x - y) := by
  unfold Bt at *
  rw [Nat.pow_succ]
  omega
theorem Bt.mul {m n : Nat} {x y : Int} (h : Bt m x) (h2 : Bt n y) : Bt (m + n) (x * y) := mul_bd h h2
theorem Bt.ok {m n : Nat} {x y : Int} (h : Bt m x) (h2 : Bt n y) (hm : m + n ≤ 134217728 := by decide) : IntMulOk x y := mulok h h2 hm
theorem Bt.small {x : Int} (m : Nat) (h : -4294967296 < x) (h2 : x < 4294967296) (hm : 32 ≤ m := by decide) : Bt m x := by
  have : Bt 32 x := by unfold Bt; omega
  exact this.mono hm
theorem Bt.of_bits {x : Int} {m : Nat} (h : Builtin.Int.intBits x ≤ m) : Bt m x := by
  unfold Bt
  unfold Builtin.Int.intBits at h
  split at h
  · rename_i h0
    have e : x.natAbs = 0 := by first | exact h0 | simpa using h0
    rw [e]; exact Nat.two_pow_pos m
  · exact Nat.lt_of_lt_of_le Nat.lt_log2_self (Nat.pow_le_pow_right (by decide) h)
theorem Bt.sum {m : Nat} : ∀ {ns : List Int} {k : Nat}, (∀ x ∈ ns, Bt m x) → ns.length ≤ k → Bt (m + k) ns.sum
  | [], k, _, _ => by unfold Bt; show 0 < _; exact Nat.two_pow_pos _
  | x :: r, 0, _, h => by simp at h
  | x :: r, k + 1, h, hl => by
    have ih := Bt.sum (ns := r) (k := k) (fun y hy => h y (List.mem_cons_of_mem _ hy)) (by simpa using hl)
    rw [List.sum_cons]
    exact ((h x (List.mem_cons_self ..)).mono (Nat.le_add_right m k)).add ih
/-- a cell by its digits, mixed -/
def lawNum (c a w : Int) : Int :=
  if 10 ^ 18 ≤ c then c else
    ((((c + 977 * a) * 48271 + w) % 2147483647) * (c + 31 * a + 7)) * ((((c + 977 * a) * 48271 + w) % 2147483647) + c + 5) * ((((c + 977 * a) * 48271 + w) % 2147483647) * (((c + 977 * a) * 48271 + w) % 2147483647) + 11) / (1009 + a)
end AK

namespace AK
open PySem PySem.Spec PyProof.Rows L2 Evl Ak
/-! ### a list, new or not -/
def EvQ (K : PySem.W.Frag) (te : TE) (σ : St) (H : Hp) (xs : List V) : Prop := ∀ H1, Ex H H1 → ∀ Q : VK, (∀ p H2, Ex H1 H2 → SqL K H2 p xs → Q (.ref p) H2) → te σ H1 Q
section
variable {K : PySem.W.Frag} {σ : St} {H H0 Hw H' : Hp} {ta tb tc te tl : TE} {t : TT} {tz tu tw : TS} {D : Ends} {xs ys : List V}
theorem EvQ.of_ev {p : Addr} (h : Ev te σ H (.ref p)) (hx : SqL K H0 p xs) (e : Ex H0 H) : EvQ K te σ H xs := fun H1 e1 Q q => h H1 e1 _ fun H2 e2 => q p H2 e2 (ex_l ((e.trans e1).trans e2) hx)
theorem EvQ.of_el (h : EvL te σ H xs) : EvQ K te σ H xs := fun H1 e1 Q q => h H1 e1 _ fun p H2 _ e2 hp => q p H2 e2 (SqL.of hp)
theorem EvQ.mono (e : Ex H H') (h : EvQ K te σ H xs) : EvQ K te σ H' xs := fun H1 e1 Q q => h H1 (e.trans e1) Q q
/-! ### == of lists -/
theorem dp_ints {p : Addr} {ns : List Int} (h : SqL K H p (ns.map V.int)) : Dp K H (.ref p) (.list (ns.map PyData.int)) := by
  refine .lst h ?_
  clear h
  induction ns with
  | nil => exact .nil
  | cons n r ih => exact .cons (.int n) ih
theorem dp_strs {p : Addr} {ss : List Str} (h : SqL K H p (ss.map V.str)) : Dp K H (.ref p) (.list (ss.map PyData.str)) := by
  refine .lst h ?_
  clear h
  induction ss with
  | nil => exact .nil
  | cons n r ih => exact .cons (.str n) ih
theorem lay_ints : ∀ ns : List Int, PyData.canLayAll0 (ns.map PyData.int) = true
  | [] => rfl
  | n :: r => by
    show (PyData.canLay0 (.int n) && PyData.canLayAll0 (r.map PyData.int)) = true
    rw [lay_ints r]; rfl
theorem depth_ints : ∀ ns : List Int, PyData.depthAll (ns.map PyData.int) = 0
  | [] => rfl
  | n :: r => by
    show max (PyData.depth (.int n)) (PyData.depthAll (r.map PyData.int)) = 0
    rw [depth_ints r]; rfl
theorem shaped_ints (ns : List Int) : SeqAt.shaped (.list (ns.map PyData.int)) = true := by
  unfold SeqAt.shaped
  show (PyData.canLayAll0 (ns.map PyData.int) && decide (PyData.depthAll (ns.map PyData.int) + 1 ≤ 64)) = true
  rw [lay_ints, depth_ints]; rfl
def OkS (s : Str) : Prop := PyData.canLay0 (.str s) = true
theorem lay_strs : ∀ ss : List Str, (∀ s ∈ ss, OkS s) → PyData.canLayAll0 (ss.map PyData.str) = true
  | [], _ => rfl
  | n :: r, h => by
    show (PyData.canLay0 (.str n) && PyData.canLayAll0 (r.map PyData.str)) = true
    rw [lay_strs r fun s hs => h s (List.mem_cons_of_mem _ hs), h n (List.mem_cons_self ..)]; rfl
theorem depth_strs : ∀ ns : List Str, PyData.depthAll (ns.map PyData.str) = 0
  | [] => rfl
  | n :: r => by
    show max (PyData.depth (.str n)) (PyData.depthAll (r.map PyData.str)) = 0
    rw [depth_strs r]; rfl
theorem shaped_strs (ss : List Str) (h : ∀ s ∈ ss, OkS s) : SeqAt.shaped (.list (ss.map PyData.str)) = true := by
  unfold SeqAt.shaped
  show (PyData.canLayAll0 (ss.map PyData.str) && decide (PyData.depthAll (ss.map PyData.str) + 1 ≤ 64)) = true
  rw [lay_strs ss h, depth_strs]; rfl
theorem eqv_ints (ns ms : List Int) : PyData.eqv (.list (ns.map PyData.int)) (.list (ms.map PyData.int)) = decide (ns = ms) := by
  rw [PyData.eqv]; exact PySem.W.eqvAll_map ns ms
theorem eqv_strs (ns ms : List Str) : PyData.eqv (.list (ns.map PyData.str)) (.list (ms.map PyData.str)) = decide (ns = ms) := by
  rw [PyData.eqv]; exact PySem.W.eqvAll_map ns ms
theorem okS_row (n : Nat) (f : Nat → Bool) : OkS (rowS n f) := by
  show (rowS n f).cps.all (· < 0x110000) = true
  rw [Array.all_eq_true]
  intro i hi
  rw [row_size] at hi
  have h := row_get (f := f) hi
  have hs : i < (rowS n f).cps.size := by rw [row_size]; exact hi
  rw [show (rowS n f).cps.getD i 0 = (rowS n f).cps[i] by simp [hs]] at h
  rw [h]
  cases f i <;> decide
theorem ev_eqQI {ns ms : List Int} (h1 : EvQ K ta σ H (ns.map V.int)) (h2 : EvQ K tb σ H (ms.map V.int)) : Ev (tOp (rEqD K) ta tb) σ H (.bl (decide (ns = ms))) := fun H1 e Q q =>
  h1 H1 e _ fun p H2 e2 hp => h2 H2 (e.trans e2) _ fun p' H3 e3 hp' => ⟨_, _, dp_ints (ex_l e3 hp), dp_ints hp', shaped_ints ns, shaped_ints ms, by rw [eqv_ints]; exact q H3 (e2.trans e3)⟩
theorem ev_neQI {ns ms : List Int} (h1 : EvQ K ta σ H (ns.map V.int)) (h2 : EvQ K tb σ H (ms.map V.int)) : Ev (tOp (rNeD K) ta tb) σ H (.bl (!decide (ns = ms))) := fun H1 e Q q =>
  h1 H1 e _ fun p H2 e2 hp => h2 H2 (e.trans e2) _ fun p' H3 e3 hp' => ⟨_, _, dp_ints (ex_l e3 hp), dp_ints hp', shaped_ints ns, shaped_ints ms, by rw [eqv_ints]; exact q H3 (e2.trans e3)⟩
theorem ev_eqQS {ns ms : List Str} (h1 : EvQ K ta σ H (ns.map V.str)) (h2 : EvQ K tb σ H (ms.map V.str)) (o1 : ∀ s ∈ ns, OkS s) (o2 : ∀ s ∈ ms, OkS s) : Ev (tOp (rEqD K) ta tb) σ H (.bl (decide (ns = ms))) := fun H1 e Q q =>
  h1 H1 e _ fun p H2 e2 hp => h2 H2 (e.trans e2) _ fun p' H3 e3 hp' => ⟨_, _, dp_strs (ex_l e3 hp), dp_strs hp', shaped_strs ns o1, shaped_strs ms o2, by rw [eqv_strs]; exact q H3 (e2.trans e3)⟩
theorem ev_neQS {ns ms : List Str} (h1 : EvQ K ta σ H (ns.map V.str)) (h2 : EvQ K tb σ H (ms.map V.str)) (o1 : ∀ s ∈ ns, OkS s) (o2 : ∀ s ∈ ms, OkS s) : Ev (tOp (rNeD K) ta tb) σ H (.bl (!decide (ns = ms))) := fun H1 e Q q =>
  h1 H1 e _ fun p H2 e2 hp => h2 H2 (e.trans e2) _ fun p' H3 e3 hp' => ⟨_, _, dp_strs (ex_l e3 hp), dp_strs hp', shaped_strs ns o1, shaped_strs ms o2, by rw [eqv_strs]; exact q H3 (e2.trans e3)⟩
/-- webs -/
def webL (n : Nat) (k : Rel) : List Str := (List.range n).map fun i => rowS n (k i)
theorem webV_eq (n : Nat) (k : Rel) : webV n k = (webL n k).map V.str := by unfold webV webL; rw [List.map_map]; rfl
theorem webL_ok (n : Nat) (k : Rel) : ∀ s ∈ webL n k, OkS s := by
  intro s hs
  obtain ⟨i, _, rfl⟩ := List.mem_map.mp hs
  exact okS_row n (k i)
theorem webL_inj {n : Nat} {k k' : Rel} : webL n k = webL n k' ↔ ∀ i j, i < n → j < n → k i j = k' i j := by
  constructor
  · intro h i j hi hj
    have e : (webL n k)[i]? = (webL n k')[i]? := by rw [h]
    unfold webL at e
    simp only [List.getElem?_map, List.getElem?_range hi, Option.map_some, Option.some.injEq] at e
    exact row_inj.mp e j hj
  · intro h
    unfold webL
    exact List.map_congr_left fun i hi => row_congr fun j hj => h i j (List.mem_range.mp hi) hj
theorem webL_len (n : Nat) (k : Rel) : (webL n k).length = n := by simp [webL]
/-! ### choices -/
theorem el_if {b : Bool} (h : EvT t σ H b) (h1 : b = true → EvL ta σ H xs) (h2 : b = false → EvL tb σ H xs) : EvL (tIf t ta tb) σ H xs := fun H1 e Q q => h H1 e _ fun H2 e2 => by
  cases b with
  | true =>
    show ta σ H2 Q
    exact h1 rfl H2 (e.trans e2) Q fun p H3 hp e3 h3 => q p H3 (fresh_back e2 hp) (e2.trans e3) h3
  | false =>
    show tb σ H2 Q
    exact h2 rfl H2 (e.trans e2) Q fun p H3 hp e3 h3 => q p H3 (fresh_back e2 hp) (e2.trans e3) h3
/-- the first operand a new tuple -/
theorem ev_opU1 {us : List V} {r : R2} {y z : V} (ha : EvU ta σ H us) (hb : Ev tb σ H y) (hr : ∀ p H1, H1 p = some (.tup us) → Ex H H1 → RV r (.ref p) y H1 z) : Ev (tOp r ta tb) σ H z := fun H1 e Q q =>
  ha H1 e _ fun p H2 _ e2 hp => hb H2 (e.trans e2) _ fun H3 e3 => hr p H3 (e3 _ _ hp) ((e.trans e2).trans e3) H3 (Ex.refl _) Q fun H4 e4 => q H4 ((e2.trans e3).trans e4)
theorem ev_ixU {us : List V} {i : Int} {v : V} (ha : EvU ta σ H us) (hb : Ev tb σ H (.int i)) (hi : atI us i = some v) : Ev (tOp (rIxT K) ta tb) σ H v := ev_opU1 ha hb fun p H1 hp _ => rv_ixT (SqT.of hp) hi
theorem ev_ixQ {i : Int} {v : V} (ha : EvQ K ta σ H xs) (hb : Ev tb σ H (.int i)) (hi : atI xs i = some v) : Ev (tOp (rIxL K) ta tb) σ H v := fun H1 e Q q =>
  ha H1 e _ fun p H2 e2 hp => hb H2 (e.trans e2) _ fun H3 e3 => ⟨p, xs, i, v, rfl, rfl, ex_l e3 hp, hi, q H3 (e2.trans e3)⟩
theorem ev_lenQ (ha : EvQ K te σ H xs) : Ev (tCB (rLenQ K) (tCons te tNil)) σ H (.int (xs.length : Int)) := fun H1 e Q q =>
  ha H1 e _ fun p H2 e2 hp => ⟨p, xs, rfl, Or.inl hp, q H2 e2⟩
theorem ev_sumQ {ns : List Int} (ha : EvQ K te σ H (ns.map V.int)) : Ev (tCB (rSum K) (tCons te tNil)) σ H (.int ns.sum) := fun H1 e Q q =>
  ha H1 e _ fun p H2 e2 hp => ⟨p, ns, rfl, hp, q H2 e2⟩
theorem el_slQ {tl th : TO} {lo hi : Option Int} (h : EvQ K te σ H xs) (h1 : EvO tl σ H lo) (h2 : EvO th σ H hi) : EvL (tSl (rSlL K) te tl th) σ H (cutV xs lo hi) := fun H1 e _ q =>
  h H1 e _ fun p H2 e2 hp => h1 H2 (e.trans e2) _ fun H3 e3 => h2 H3 ((e.trans e2).trans e3) _ fun H4 e4 =>
    ⟨p, xs, rfl, ex_l (e3.trans e4) hp, fun r hr => q r _ (fresh_back ((e2.trans e3).trans e4) hr) (((e2.trans e3).trans e4).trans (Ex.new hr)) upd_same⟩
theorem cut_take (xs : List V) (k : Nat) : cutV xs none (some (k : Int)) = xs.take k := by
  unfold cutV
  rw [HT.sIx_none, HT.sIx_nat]
  simp only [List.drop_zero, Nat.sub_zero]
  by_cases h : k ≤ xs.length
  · rw [Nat.min_eq_left h]
  · rw [Nat.min_eq_right (by omega), List.take_of_length_le (Nat.le_refl _), List.take_of_length_le (by omega)]
theorem cut_drop (xs : List V) (k : Nat) : cutV xs (some (k : Int)) none = xs.drop k := by
  unfold cutV
  rw [HT.sIx_none, HT.sIx_nat]
  by_cases h : k ≤ xs.length
  · rw [Nat.min_eq_left h, List.take_of_length_le (by simp)]
  · rw [Nat.min_eq_right (by omega)]
    simp [List.drop_eq_nil_of_le (show xs.length ≤ k by omega)]
/-- the least of some ints -/
theorem ev_minQ {ns : List Int} {m : Int} (ha : EvQ K te σ H (ns.map V.int)) (hm : m ∈ ns) (hle : ∀ y ∈ ns, m ≤ y) : Ev (tCB (rMin K) (tCons te tNil)) σ H (.int m) := fun H1 e Q q =>
  ha H1 e _ fun p H2 e2 hp => ⟨p, ns, rfl, hp, List.length_pos_of_mem hm, fun m' h1 h2 => by
    have e : m' = m := Int.le_antisymm (h2 m hm) (hle m' h1)
    rw [e]; exact q H2 e2⟩
theorem least : ∀ {ns : List Int}, ns ≠ [] → ∃ m, m ∈ ns ∧ ∀ y ∈ ns, m ≤ y
  | [], h => absurd rfl h
  | [a], _ => ⟨a, by simp, by simp⟩
  | a :: b :: r, _ => by
    obtain ⟨m, h1, h2⟩ := least (ns := b :: r) (by simp)
    by_cases h : a ≤ m
    · exact ⟨a, by simp, fun y hy => by
        rcases List.mem_cons.mp hy with e | hy
        · rw [e]; exact Int.le_refl _
        · exact Int.le_trans h (h2 y hy)⟩
    · exact ⟨m, List.mem_cons_of_mem _ h1, fun y hy => by
        rcases List.mem_cons.mp hy with e | hy
        · rw [e]; omega
        · exact h2 y hy⟩
/-! ### walks over what is new -/
def EvWN (wi : TI) (σ : St) (H : Hp) (n : Nat) (it : Nat → V) : Prop := ∀ H1, Ex H H1 → ∀ R : It → Hp → Prop, (∀ J H2, Ex H1 H2 → Wk J n H2 it → R J H2) → wi σ H1 R
def EvWN2 (wi : TI) (σ : St) (H : Hp) (n : Nat) (a b : Nat → V) : Prop := ∀ H1, Ex H H1 → ∀ R : It → Hp → Prop, (∀ J H2, Ex H1 H2 → Wk2 J n H2 a b → R J H2) → wi σ H1 R
theorem ewn_list (h : EvQ K tl σ H xs) : EvWN (iList K tl) σ H xs.length (fun i => xs.getD i .non) := fun H1 e R r =>
  h H1 e _ fun p H2 e2 hp => ⟨p, rfl, ⟨xs, hp⟩, r _ H2 e2
    ⟨fun i H3 e3 hi => ⟨xs, xs[i], ex_l e3 hp, by simp [hi]⟩, fun H3 e3 => ⟨xs, ex_l e3 hp, Nat.le_refl _⟩, fun i H3 x H4 e3 hi y => ⟨y.1, by
      have q := y.2 xs (ex_l e3 hp)
      rw [List.getD_eq_getElem?_getD, q]; rfl⟩⟩⟩
theorem ewn_enum (h : EvQ K tl σ H xs) : EvWN2 (iEnum K (tCons tl tNil)) σ H xs.length (fun i => .int (i : Nat)) (fun i => xs.getD i .non) := fun H1 e R r =>
  h H1 e _ fun p H2 e2 hp => ⟨p, xs, rfl, hp, r _ H2 e2
    ⟨fun i H3 e3 hi => ⟨xs, xs[i], ex_l e3 hp, by simp [hi]⟩, fun H3 e3 => ⟨xs, ex_l e3 hp, Nat.le_refl _⟩, fun i H3 x H4 e3 hi y => by
      obtain ⟨T, z, h1, h2, h3, h4⟩ := y
      have q := h4 _ (ex_l e3 hp)
      exact ⟨T, h1, h2, by rw [h3, List.getD_eq_getElem?_getD, q]; rfl⟩⟩⟩
theorem s_forN {wi : TI} {n j : Nat} {it : Nat → V} (h : EvWN wi σ H n it) (Pv : Hp → Nat → St → Hp → Prop) (h0 : ∀ H1, Ex H H1 → Pv H1 0 σ H1) (hx : ∀ Hb i σ' H', i ≤ n → Pv Hb i σ' H' → Ex Hb H')
    (hs : ∀ Hb i σ' H', Ex H Hb → i < n → Pv Hb i σ' H' → tu { D with nx := Pv Hb (i + 1), ct := Pv Hb (i + 1), bk := D.nx } (σ'.set j (some (it i))) H') (hd : ∀ Hb σ' H', Ex H Hb → Pv Hb n σ' H' → D.nx σ' H') : tFor wi (gName j) tu D σ H :=
  h H (Ex.refl H) _ fun J H2 e2 W => ⟨fun i m σ' H' => m = n - i ∧ i ≤ n ∧ Pv H2 i σ' H', ⟨n, by simp, Nat.zero_le _, h0 H2 e2⟩, by
    rintro i m σ' H' ⟨rfl, hi, p⟩
    by_cases hlt : i < n
    · refine .inr ⟨W.goes i H' (hx H2 i σ' H' hi p) hlt, Pv H2 (i + 1), fun σ2 H3 p' => ⟨n - (i + 1), by omega, rfl, hlt, p'⟩, fun x H3 y => ?_⟩
      obtain ⟨e, e'⟩ := W.yields i H' x H3 (hx H2 i σ' H' hi p) hlt y
      subst e e'
      exact hs H2 i σ' _ e2 hlt p
    · have e : i = n := by omega
      subst e
      exact .inl ⟨W.stops H' (hx H2 i σ' H' hi p), hd H2 σ' H' e2 p⟩⟩
theorem s_forN2 {wi : TI} {n j1 j2 : Nat} {a b : Nat → V} (h : EvWN2 wi σ H n a b) (Pv : Hp → Nat → St → Hp → Prop) (h0 : ∀ H1, Ex H H1 → Pv H1 0 σ H1) (hx : ∀ Hb i σ' H', i ≤ n → Pv Hb i σ' H' → Ex Hb H')
    (hs : ∀ Hb i σ' H' T, Ex H Hb → i < n → Pv Hb i σ' H' → H' T = none → tu { D with nx := Pv Hb (i + 1), ct := Pv Hb (i + 1), bk := D.nx } ((σ'.set j1 (some (a i))).set j2 (some (b i))) (upd H' T (.tup [a i, b i]))) (hd : ∀ Hb σ' H', Ex H Hb → Pv Hb n σ' H' → D.nx σ' H') :
    tFor wi (gTup K 2 (gCons (gName j1) (gCons (gName j2) gNil))) tu D σ H :=
  h H (Ex.refl H) _ fun J H2 e2 W => ⟨fun i m σ' H' => m = n - i ∧ i ≤ n ∧ Pv H2 i σ' H', ⟨n, by simp, Nat.zero_le _, h0 H2 e2⟩, by
    rintro i m σ' H' ⟨rfl, hi, p⟩
    by_cases hlt : i < n
    · refine .inr ⟨W.goes i H' (hx H2 i σ' H' hi p) hlt, Pv H2 (i + 1), fun σ2 H3 p' => ⟨n - (i + 1), by omega, rfl, hlt, p'⟩, fun x H3 y => ?_⟩
      obtain ⟨T, e, e', e''⟩ := W.yields i H' x H3 (hx H2 i σ' H' hi p) hlt y
      subst e e''
      exact ⟨T, _, rfl, SqT.of upd_same, rfl, a i, [b i], rfl, b i, [], rfl, rfl, hs H2 i σ' H' T e2 hlt p e'⟩
    · have e : i = n := by omega
      subst e
      exact .inl ⟨W.stops H' (hx H2 i σ' H' hi p), hd H2 σ' H' e2 p⟩⟩
theorem q_forN {wi : TI} {n j : Nat} {it : Nat → V} (h : EvWN wi σ H n it) (Pv : Hp → Nat → St → Hp → Prop) (h0 : ∀ H1, Ex H H1 → Pv H1 0 σ H1) (hx : ∀ Hb i σ' H', i ≤ n → Pv Hb i σ' H' → Ex Hb H')
    (hs : ∀ Hb i σ' H', Ex H Hb → i < n → Pv Hb i σ' H' → tu { D with nx := Pv Hb (i + 1), ct := Pv Hb (i + 1), bk := tz D } (σ'.set j (some (it i))) H') (hd : ∀ Hb σ' H', Ex H Hb → Pv Hb n σ' H' → tz D σ' H') : tSeq (tFor wi (gName j) tu) tz D σ H :=
  s_forN (D := { D with nx := tz D }) h Pv h0 hx hs hd
theorem q_forN2 {wi : TI} {n j1 j2 : Nat} {a b : Nat → V} (h : EvWN2 wi σ H n a b) (Pv : Hp → Nat → St → Hp → Prop) (h0 : ∀ H1, Ex H H1 → Pv H1 0 σ H1) (hx : ∀ Hb i σ' H', i ≤ n → Pv Hb i σ' H' → Ex Hb H')
    (hs : ∀ Hb i σ' H' T, Ex H Hb → i < n → Pv Hb i σ' H' → H' T = none → tu { D with nx := Pv Hb (i + 1), ct := Pv Hb (i + 1), bk := tz D } ((σ'.set j1 (some (a i))).set j2 (some (b i))) (upd H' T (.tup [a i, b i]))) (hd : ∀ Hb σ' H', Ex H Hb → Pv Hb n σ' H' → tz D σ' H') :
    tSeq (tFor wi (gTup K 2 (gCons (gName j1) (gCons (gName j2) gNil))) tu) tz D σ H :=
  s_forN2 (D := { D with nx := tz D }) h Pv h0 hx hs hd
/-! ### calls whose argument is a new list -/
/-- f(new list) -/
theorem ev_hcL {sp : Sp} {E : XK} {v : V} (h : EvL te σ H xs) (hs : ∀ p H1, H1 p = some (.lst xs) → Ex H H1 → SpV sp [.ref p] H1 v) : Ev (tCall sp [] E (tCons te tNil)) σ H v := fun H1 e Q q =>
  h H1 e _ fun p H2 _ e2 hp => hs p H2 hp (e.trans e2) H2 (Ex.refl _) Q (fun H3 e3 => q H3 (e2.trans e3)) E
theorem el_hcL {sp : Sp} {E : XK} (h : EvL te σ H xs) (hs : ∀ p H1, H1 p = some (.lst xs) → Ex H H1 → SpL sp [.ref p] H1 ys) : EvL (tCall sp [] E (tCons te tNil)) σ H ys := fun H1 e Q q =>
  h H1 e _ fun p H2 _ e2 hp => hs p H2 hp (e.trans e2) H2 (Ex.refl _) Q (fun p' H3 hp' e3 h3 => q p' H3 (fresh_back e2 hp') (e2.trans e3) h3) E
end
theorem WebAt.of {K : PySem.W.Frag} {H : Hp} {p : Addr} {n : Nat} {k : Rel} (h : H p = some (.lst (webV n k))) (w : IsW n k) (hn : n ≤ 200) : WebAt K H p n k := ⟨SqL.of h, w, hn⟩
end AK

namespace AK
open PySem PySem.Spec PyProof.Rows L2 Evl Ak
section
variable {K : PySem.W.Frag} {σ : St} {H H0 Hw H' : Hp} {ta tb tc te tl : TE} {t : TT} {tz tu tw : TS} {D : Ends} {xs ys : List V}
theorem EvWN.of_eq {wi : TI} {n m : Nat} {a a' : Nat → V} (h : EvWN wi σ H n a) (hn : n = m) (ha : ∀ i, i < n → a i = a' i) : EvWN wi σ H m a' := by
  subst hn
  exact fun H1 e R r => h H1 e R fun J H2 e2 W => r J H2 e2 ⟨W.goes, W.stops, fun i H3 x H4 e3 hi y => by
    obtain ⟨h1, h2⟩ := W.yields i H3 x H4 e3 hi y
    exact ⟨h1, by rw [h2, ha i hi]⟩⟩
theorem EvWN2.of_eq {wi : TI} {n m : Nat} {a b a' b' : Nat → V} (h : EvWN2 wi σ H n a b) (hn : n = m) (ha : ∀ i, i < n → a i = a' i) (hb : ∀ i, i < n → b i = b' i) : EvWN2 wi σ H m a' b' := by
  subst hn
  exact fun H1 e R r => h H1 e R fun J H2 e2 W => r J H2 e2 ⟨W.goes, W.stops, fun i H3 x H4 e3 hi y => by
    obtain ⟨T, h1, h2, h3⟩ := W.yields i H3 x H4 e3 hi y
    exact ⟨T, h1, h2, by rw [h3, ha i hi, hb i hi]⟩⟩
/-- comprehensions over what is new -/
theorem el_lcN {wi : TI} {n j : Nat} {it : Nat → V} {vs : List Nat} (f : Nat → Bool) (g : Nat → V) (h : EvWN wi σ H n it) (hn : n < 50000) (hw : ∀ x, wipe ((wipe σ vs).set j (some x)) vs = wipe σ vs)
    (ht : ∀ i H1, Ex H H1 → i < n → EvT t ((wipe σ vs).set j (some (it i))) H1 (f i)) (he : ∀ i H1, Ex H H1 → i < n → f i = true → Ev te ((wipe σ vs).set j (some (it i))) H1 (g i)) :
    EvL (tLc wi (gName j) t te vs) σ H (given n f g) := fun H0 e Q q => h H0 e _ fun J H1 e1 W Dl hD =>
  ⟨fun i m H' => m = n - i ∧ i ≤ n ∧ Cw H1 f g Dl i H', ⟨n, by simp, Nat.zero_le _, hD, Ex.new hD, upd_same⟩, by
    rintro i m H' ⟨rfl, hi, p⟩
    by_cases hlt : i < n
    · refine .inr ⟨W.goes i H' p.2.1 hlt, Cw H1 f g Dl (i + 1), fun H3 p' => ⟨n - (i + 1), by omega, rfl, hlt, p'⟩, fun x H3 y => ?_⟩
      obtain ⟨e2, e3⟩ := W.yields i H' x H3 p.2.1 hlt y
      subst e2 e3
      exact ⟨hw _, cw_turn p (by omega) (ht i H1 (e.trans e1) hlt) (fun hf => he i H1 (e.trans e1) hlt hf)⟩
    · have e2 : i = n := by omega
      subst e2
      exact .inl ⟨W.stops H' p.2.1, q Dl H' (fresh_back e1 p.1) (e1.trans p.2.1) p.2.2⟩⟩
theorem el_lc2N {wi : TI} {n j1 j2 : Nat} {a b : Nat → V} {vs : List Nat} (f : Nat → Bool) (g : Nat → V) (h : EvWN2 wi σ H n a b) (hn : n < 50000) (hw : ∀ x y, wipe (((wipe σ vs).set j1 (some x)).set j2 (some y)) vs = wipe σ vs)
    (ht : ∀ i H1, Ex H H1 → i < n → EvT t (((wipe σ vs).set j1 (some (a i))).set j2 (some (b i))) H1 (f i)) (he : ∀ i H1, Ex H H1 → i < n → f i = true → Ev te (((wipe σ vs).set j1 (some (a i))).set j2 (some (b i))) H1 (g i)) :
    EvL (tLc wi (gTup K 2 (gCons (gName j1) (gCons (gName j2) gNil))) t te vs) σ H (given n f g) := fun H0 e Q q => h H0 e _ fun J H1 e1 W Dl hD =>
  ⟨fun i m H' => m = n - i ∧ i ≤ n ∧ Cw H1 f g Dl i H', ⟨n, by simp, Nat.zero_le _, hD, Ex.new hD, upd_same⟩, by
    rintro i m H' ⟨rfl, hi, p⟩
    have ex := p.2.1
    by_cases hlt : i < n
    · refine .inr ⟨W.goes i H' ex hlt, Cw H1 f g Dl (i + 1), fun H3 p' => ⟨n - (i + 1), by omega, rfl, hlt, p'⟩, fun x H3 y => ?_⟩
      obtain ⟨T, e2, e3, e4⟩ := W.yields i H' x H3 ex hlt y
      subst e2 e4
      have nT : T ≠ Dl := fun z => by rw [z, p.2.2] at e3; cases e3
      have p' : Cw H1 f g Dl i (upd H' T (.tup [a i, b i])) := ⟨p.1, p.2.1.trans (Ex.new e3), by rw [upd_ne nT.symm]; exact p.2.2⟩
      exact ⟨T, _, rfl, SqT.of upd_same, rfl, a i, [b i], rfl, b i, [], rfl, rfl, hw _ _, cw_turn p' (by omega) (ht i H1 (e.trans e1) hlt) (fun hf => he i H1 (e.trans e1) hlt hf)⟩
    · have e2 : i = n := by omega
      subst e2
      exact .inl ⟨W.stops H' ex, q Dl H' (fresh_back e1 p.1) (e1.trans p.2.1) p.2.2⟩⟩
theorem el_mapN {wi : TI} {n j : Nat} {it : Nat → V} {vs : List Nat} (g : Nat → V) (h : EvWN wi σ H n it) (hn : n < 50000) (hw : ∀ x, wipe ((wipe σ vs).set j (some x)) vs = wipe σ vs)
    (he : ∀ i H1, Ex H H1 → i < n → Ev te ((wipe σ vs).set j (some (it i))) H1 (g i)) : EvL (tLc wi (gName j) tYes te vs) σ H ((List.range n).map g) :=
  el_is (el_lcN (fun _ => true) g h hn hw (fun _ _ _ _ => et_yes) fun i H1 e hi _ => he i H1 e hi) (given_all n g)
theorem el_map2N {wi : TI} {n j1 j2 : Nat} {a b : Nat → V} {vs : List Nat} (g : Nat → V) (h : EvWN2 wi σ H n a b) (hn : n < 50000) (hw : ∀ x y, wipe (((wipe σ vs).set j1 (some x)).set j2 (some y)) vs = wipe σ vs)
    (he : ∀ i H1, Ex H H1 → i < n → Ev te (((wipe σ vs).set j1 (some (a i))).set j2 (some (b i))) H1 (g i)) : EvL (tLc wi (gTup K 2 (gCons (gName j1) (gCons (gName j2) gNil))) tYes te vs) σ H ((List.range n).map g) :=
  el_is (el_lc2N (fun _ => true) g h hn hw (fun _ _ _ _ => et_yes) fun i H1 e hi _ => he i H1 e hi) (given_all n g)
theorem getD_eq {xs : List V} {i : Nat} {v : V} (h : xs[i]? = some v) : xs.getD i .non = v := by rw [List.getD_eq_getElem?_getD, h]; rfl
end
/-! ### people -/
def natsV (ps : List Nat) : List V := ps.map fun i => V.int (i : Nat)
theorem natsV_len (ps : List Nat) : (natsV ps).length = ps.length := by simp [natsV]
theorem natsV_ints (ps : List Nat) : natsV ps = (ps.map fun (i : Nat) => (i : Int)).map V.int := by unfold natsV; rw [List.map_map]; rfl
theorem natsV_at {ps : List Nat} {i : Nat} (h : i < ps.length) : (natsV ps).getD i .non = V.int (ps.getD i 0 : Nat) := by
  refine getD_eq ?_
  unfold natsV
  rw [List.getElem?_map, List.getElem?_eq_getElem h, List.getD_eq_getElem?_getD, List.getElem?_eq_getElem h]; rfl
theorem getD_mem {ps : List Nat} {i : Nat} (h : i < ps.length) : ps.getD i 0 ∈ ps := by
  rw [List.getD_eq_getElem?_getD, List.getElem?_eq_getElem h]; exact List.getElem_mem h
theorem take_at {xs : List V} {i j : Nat} (h : j < i) : (xs.take i).getD j .non = xs.getD j .non := by
  rw [List.getD_eq_getElem?_getD, List.getD_eq_getElem?_getD, List.getElem?_take_of_lt h]
/-- each two of them know one another (b), or none knows another one -/
def allAs (k : Rel) (b : Bool) (ps : List Nat) : Bool := (List.range ps.length).all fun i => (List.range i).all fun j => k (ps.getD i 0) (ps.getD j 0) == b
theorem allAs_iff {k : Rel} {b : Bool} {ps : List Nat} : allAs k b ps = true ↔ ∀ i, i < ps.length → ∀ j, j < i → k (ps.getD i 0) (ps.getD j 0) = b := by
  unfold allAs
  rw [List.all_eq_true]
  constructor
  · intro h i hi j hj
    have := List.all_eq_true.mp (h i (List.mem_range.mpr hi)) j (List.mem_range.mpr hj)
    simpa using this
  · intro h i hi
    rw [List.all_eq_true]
    intro j hj
    exact beq_iff_eq.mpr (h i (List.mem_range.mp hi) j (List.mem_range.mp hj))
/-- strictly rising, above last and below n -/
def rises (n : Int) : Int → List Int → Bool
  | _, [] => true
  | last, x :: r => decide (last < x) && decide (x < n) && rises n x r
def areP (n : Nat) (ns : List Int) : Bool := rises n (-1) ns
theorem rises_mem {n : Int} : ∀ {ns : List Int} {last : Int}, rises n last ns = true → ∀ x ∈ ns, last < x ∧ x < n
  | [], _, _, x, hx => by cases hx
  | y :: r, last, h, x, hx => by
    simp only [rises, Bool.and_eq_true, decide_eq_true_eq] at h
    rcases List.mem_cons.mp hx with e | hx
    · rw [e]; exact h.1
    · have := rises_mem h.2 x hx
      omega
theorem rises_nat {n : Nat} {ns : List Int} (h : areP n ns = true) : ∃ ps : List Nat, ns = ps.map (fun (i : Nat) => (i : Int)) ∧ ∀ i ∈ ps, i < n := by
  have hm := rises_mem h
  refine ⟨ns.map Int.toNat, ?_, ?_⟩
  · rw [List.map_map]
    conv => lhs; rw [← List.map_id ns]
    exact List.map_congr_left fun x hx => by have := hm x hx; show x = ((x.toNat : Nat) : Int); omega
  · intro i hi
    obtain ⟨x, hx, rfl⟩ := List.mem_map.mp hi
    have := hm x hx
    omega
theorem rises_len {n : Nat} : ∀ {ns : List Int} {last : Int}, rises n last ns = true → -1 ≤ last → (ns.length : Int) ≤ n - 1 - last ∨ ns = []
  | [], _, _, _ => .inr rfl
  | x :: r, last, h, hl => by
    simp only [rises, Bool.and_eq_true, decide_eq_true_eq] at h
    left
    rcases rises_len h.2 (by omega) with q | q
    · simp; omega
    · rw [q]; simp; omega
end AK

namespace Ak
/-! bits -/
def bitsN (m : Nat) : Int := if h : m = 0 then 0 else (m % 2 : Nat) + bitsN (m / 2)
termination_by m
decreasing_by omega
theorem bitsN_zero : bitsN 0 = 0 := by rw [bitsN]; simp
theorem bitsN_eq (m : Nat) : bitsN m = (m % 2 : Nat) + bitsN (m / 2) := by
  by_cases h : m = 0
  · subst h; rw [bitsN_zero]; simp [bitsN_zero]
  · rw [bitsN]; simp [h]
theorem and_odd (a : Nat) : (2 * a + 1) &&& (2 * a) = 2 * a := by
  apply Nat.eq_of_testBit_eq
  intro j
  rw [Nat.testBit_and]
  cases j with
  | zero =>
    rw [Nat.testBit_zero, Nat.testBit_zero]
    have : 2 * a % 2 = 0 := by omega
    rw [this]; simp
  | succ j =>
    rw [Nat.testBit_succ, Nat.testBit_succ]
    have h1 : (2 * a + 1) / 2 = a := by omega
    have h2 : 2 * a / 2 = a := by omega
    rw [h1, h2, Bool.and_self]
theorem and_even {a : Nat} (h : 0 < a) : (2 * a) &&& (2 * a - 1) = 2 * (a &&& (a - 1)) := by
  apply Nat.eq_of_testBit_eq
  intro j
  rw [Nat.testBit_and]
  cases j with
  | zero =>
    rw [Nat.testBit_zero, Nat.testBit_zero, Nat.testBit_zero]
    have : 2 * a % 2 = 0 := by omega
    have h2 : 2 * (a &&& (a - 1)) % 2 = 0 := by omega
    rw [this, h2]; simp
  | succ j =>
    rw [Nat.testBit_succ, Nat.testBit_succ, Nat.testBit_succ]
    have h1 : (2 * a - 1) / 2 = a - 1 := by omega
    have h2 : 2 * a / 2 = a := by omega
    have h3 : 2 * (a &&& (a - 1)) / 2 = a &&& (a - 1) := by omega
    rw [h1, h2, h3, Nat.testBit_and]
theorem bits_drop : ∀ m : Nat, 0 < m → bitsN (m &&& (m - 1)) + 1 = bitsN m := by
  intro m
  induction m using Nat.strongRecOn with
  | _ m ih =>
    intro h
    by_cases ho : m % 2 = 1
    · obtain ⟨a, rfl⟩ : ∃ a, m = 2 * a + 1 := ⟨m / 2, by omega⟩
      have e : (2 * a + 1) - 1 = 2 * a := by omega
      rw [e, and_odd, bitsN_eq (2 * a + 1), bitsN_eq (2 * a)]
      have h1 : (2 * a + 1) / 2 = a := by omega
      have h2 : 2 * a / 2 = a := by omega
      rw [h1, h2]; omega
    · obtain ⟨a, rfl⟩ : ∃ a, m = 2 * a := ⟨m / 2, by omega⟩
      have ha : 0 < a := by omega
      rw [and_even ha, bitsN_eq (2 * (a &&& (a - 1))), bitsN_eq (2 * a)]
      have h2 : 2 * a / 2 = a := by omega
      have h3 : 2 * (a &&& (a - 1)) / 2 = a &&& (a - 1) := by omega
      have := ih a (by omega) ha
      rw [h2, h3]; omega
theorem and_less {m : Nat} (h : 0 < m) : m &&& (m - 1) < m := Nat.lt_of_le_of_lt Nat.and_le_right (by omega)
theorem bits_sm : ∀ (N m : Nat), m < 2 ^ N → bitsN m = sm N fun j => b2 (m.testBit j)
  | 0, m, h => by
    have : m = 0 := by simp at h; exact h
    rw [this, bitsN_zero]; rfl
  | N + 1, m, h => by
    rw [sm_shift, bitsN_eq, bits_sm N (m / 2) (by rw [Nat.pow_succ] at h; omega)]
    congr 1
    · rw [Nat.testBit_zero]
      rcases Nat.mod_two_eq_zero_or_one m with e | e <;> rw [e] <;> rfl
    · exact sm_congr fun j _ => by rw [Nat.testBit_succ]
/-- the people a row's signs name -/
def maskN (f : Nat → Bool) : Nat → Nat
  | 0 => 0
  | n + 1 => if f n then 2 ^ n + maskN f n else maskN f n
theorem maskN_succ (f : Nat → Bool) (n : Nat) : maskN f (n + 1) = if f n then 2 ^ n + maskN f n else maskN f n := rfl
theorem maskN_lt (f : Nat → Bool) : ∀ n, maskN f n < 2 ^ n
  | 0 => Nat.one_pos
  | n + 1 => by
    have := maskN_lt f n
    unfold maskN
    rw [Nat.pow_succ]
    split <;> omega
theorem maskN_bit (f : Nat → Bool) : ∀ n j, (maskN f n).testBit j = (decide (j < n) && f j)
  | 0, j => by simp [maskN]
  | n + 1, j => by
    have hlt := maskN_lt f n
    have ih := maskN_bit f n j
    unfold maskN
    by_cases hj : j = n
    · subst hj
      rw [decide_eq_false (Nat.lt_irrefl j), Bool.false_and] at ih
      rw [decide_eq_true (Nat.lt_succ_self j), Bool.true_and]
      split
      · rename_i h; rw [Nat.testBit_two_pow_add_eq, ih, h]; rfl
      · rename_i h; rw [ih]; simpa using h
    · by_cases h2 : j < n
      · rw [decide_eq_true (show j < n + 1 by omega), Bool.true_and]
        rw [decide_eq_true h2, Bool.true_and] at ih
        split
        · rw [Nat.testBit_two_pow_add_gt h2, ih]
        · exact ih
      · rw [decide_eq_false (show ¬ j < n + 1 by omega), Bool.false_and]
        refine Nat.testBit_lt_two_pow (Nat.lt_of_lt_of_le (m := 2 ^ (n + 1)) ?_ (Nat.pow_le_pow_right (by decide) (by omega)))
        rw [Nat.pow_succ]
        split <;> omega
theorem maskN_sum (f : Nat → Bool) : ∀ n : Nat, (((List.range n).filter f).map fun (j : Nat) => (1 : Int) * 2 ^ (((j : Nat) : Int)).toNat).sum = (maskN f n : Nat)
  | 0 => rfl
  | n + 1 => by
    rw [List.range_succ, List.filter_append, List.map_append, List.sum_append, maskN_sum f n, maskN_succ]
    by_cases h : f n = true
    · rw [if_pos h, List.filter_cons_of_pos h]
      simp only [List.filter_nil, List.map_cons, List.map_nil, List.sum_cons, List.sum_nil, Int.toNat_natCast, Int.natCast_add, Int.natCast_pow, Int.one_mul, Int.add_zero]
      exact Int.add_comm _ _
    · rw [if_neg h, List.filter_cons_of_neg h]
      simp
/-- those whom both know, below b -/
theorem both_bits {n a b : Nat} {k : Rel} (ha : a < n) (hb : b < a) : bitsN ((maskN (k a) n &&& maskN (k b) n) &&& (2 ^ b - 1)) = sm b fun c => b2 (k a c && k b c) := by
  rw [bits_sm b _ (Nat.lt_of_le_of_lt Nat.and_le_right (by have := Nat.two_pow_pos b; omega))]
  refine sm_congr fun c hc => ?_
  rw [Nat.testBit_and, Nat.testBit_and, maskN_bit, maskN_bit, Nat.testBit_two_pow_sub_one, decide_eq_true (show c < n by omega), decide_eq_true hc]
  simp
end Ak

namespace L2
open PySem PySem.Spec PyProof.Rows
section
variable {P : Program} {w : World} {A : Around} {E : Value → Shared → Prop} {s : Shared}
theorem call_set_lstI {l : Addr} {items : Array Value} (ns : List Int) {Q : Value → Shared → Prop} (hh : A.handled = none) (hl : s.heap.IsList l items) (hit : IntsAre items.toList ns) (hb : ns.length + 1 < scanBound)
    (h : ∀ (h' : Heap) (tk c : Nat), SetR w h' s.heap.objs.size (fun j => decide (j ∈ ns)) c → c ≤ ns.length → (∀ b o, s.heap.get? b = some o → h'.get? b = some o) → Q (.ref s.heap.objs.size) { s with heap := h', toks := tk }) :
    wpAny (model P w) A (call (.type "set") [.ref l]) Q E s := by
  have hisz : items.size = ns.length := by
    have q := IntsAre.length hit
    rw [Array.length_toList] at q
    exact q
  obtain ⟨c, tl, hmro⟩ := F.called_set.mro
  have hmade := F.called_set.made
  have hsub := F.called_set.sub
  refine wpAny_call (codeAny_of_tree ?_)
  show wpAny _ _ (callAny (.type "set") _) _ _ _
  refine wpAny_pure ⟨Code.quiet_builtin _ (by decide +kernel), codeAny_builtin F.entry_type_call ?_⟩
  rw [Around.under_plain (weight_type_call_type "set" [.ref l] []) rfl]
  have h1 := F.called_set.notType
  have h2 := F.called_set.canCreate
  have hct := F.typeCall_set_1 (.ref l)
  repeat (any_goals (first | assumption | wp_step))

  refine codeAny_mono (code_set_led1 (.ref l) (E := E) (Q₁ := fun obj s₁ => obj = .ref s.heap.objs.size ∧ s₁ = { s with heap := s.heap.push { cls := .type "set", dict := none, data := .set #[] 0 (.fresh 0 0 (!w.params.followText "set-order")) } }) ⟨rfl, rfl⟩) fun r s₁ hr => ?_
  cases r with
  | error e => exact hr
  | ok fl =>
    cases fl with
    | ret obj =>
      obtain ⟨rfl, rfl⟩ := hr
      have hS : (s.heap.push { cls := .type "set", dict := none, data := .set #[] 0 (.fresh 0 0 (!w.params.followText "set-order")) }).get? s.heap.objs.size = some { cls := .type "set", dict := none, data := .set #[] 0 (.fresh 0 0 (!w.params.followText "set-order")) } := Heap.get?_push_size _ rfl
      have hT : Shared.TypeIs { s with heap := s.heap.push { cls := .type "set", dict := none, data := .set #[] 0 (.fresh 0 0 (!w.params.followText "set-order")) } } (.ref s.heap.objs.size) "set" := ⟨_, hS, rfl⟩
      have hli := F.called_set.init.lookup
      have hbi := F.called_set.init.bind (.ref s.heap.objs.size)
      repeat (any_goals (first | assumption | wp_step))

      refine codeAny_mono (codeAny_call_builtin (R := wants (fun r s₂ => r = .none ∧ ∃ h' tk c, s₂ = { s with heap := h', toks := tk } ∧ SetR w h' s.heap.objs.size (fun j => decide (j ∈ ns)) c ∧ c ≤ ns.length ∧
          (∀ b o, s.heap.get? b = some o → h'.get? b = some o)) E) F.called_set.init.plain F.entry_set_init (check_set_init_1 hT ?_)) fun r₂ s₂ hr₂ => ?_
      · obtain ⟨ol, hol, hcl, nl, hdl⟩ := hl
        obtain ⟨ocls, odict, odata, oslots⟩ := ol
        simp only at hcl hdl
        subst hcl; subst hdl
        have hol' : (s.heap.push { cls := .type "set", dict := none, data := .set #[] 0 (.fresh 0 0 (!w.params.followText "set-order")) }).get? l = some { cls := .type "list", dict := odict, data := .seq items nl, slots := oslots } := Heap.get?_push_of_some _ hol
        have hsls := F.sub_list_set
        have hslf := F.sub_list_frozenset
        have hne : (Value.type "list" == Value.type "dict") = false := by decide
        have hl1 : (s.heap.push { cls := .type "set", dict := none, data := .set #[] 0 (.fresh 0 0 (!w.params.followText "set-order")) }).IsList l items := ⟨_, hol', rfl, nl, rfl⟩
        unfold Builtin.«set.__init__» noKeywords Builtin.Frozenset.updateFrom
        generalize hPI : pyIter = PI
        wp_walk
        subst hPI

        refine wpAny_pyIter_list hl1 ?_
        refine wpAny_bind (wpAny_runValue ?_)
        have hlS : l < s.heap.objs.size := Heap.lt_size hol
        have hh3 : A.in1.in1.in1.handled = none := by simp [hh]
        have hz1 : (s.heap.push { cls := .type "set", dict := none, data := .set #[] 0 (.fresh 0 0 (!w.params.followText "set-order")) }).objs.size = s.heap.objs.size + 1 := Heap.size_push ..
        have hneI : l ≠ (s.heap.push { cls := .type "set", dict := none, data := .set #[] 0 (.fresh 0 0 (!w.params.followText "set-order")) }).objs.size := by
          rw [Heap.size_push]; exact Nat.ne_of_lt (Nat.lt_succ_of_lt hlS)
        have hSf : s.heap.objs.size ∉ [(s.heap.push { cls := .type "set", dict := none, data := .set #[] 0 (.fresh 0 0 (!w.params.followText "set-order")) }).objs.size, l] := by
          rw [Heap.size_push]; simp only [List.mem_cons, List.mem_singleton, List.not_mem_nil, or_false, not_or]
          exact ⟨Nat.ne_of_lt (Nat.lt_succ_self _), Nat.ne_of_gt hlS⟩
        have hval : ∀ (i : Nat) (v : Value), items[i]? = some v → ∃ k t, ns[i]? = some k ∧ v = .int k t := fun i v hv => by
          have hi : i < ns.length := by rw [← hisz]; exact (Array.getElem?_eq_some_iff.mp hv).1
          obtain ⟨t, e⟩ := PyProof.Rows.IntsAre.int_at hit i v (by rw [Array.getElem?_toList]; exact hv)
          refine ⟨ns[i], t, List.getElem?_eq_getElem hi, ?_⟩
          rw [e, List.getD_eq_getElem?_getD, List.getElem?_eq_getElem hi] <;> rfl
        refine set_update_ints ((Walks.list hh3 _ l hneI items).toS) s.heap.objs.size
          hSf ns hisz hb hval (items.size - 0) 0 _ (by omega) (Nat.zero_le _)
          ⟨⟨_, Heap.get?_push_size _ rfl, rfl, rfl⟩, (hl1.push _)⟩ ?hS0 ?hR
        case hS0 =>
          have hget : ((s.heap.push { cls := .type "set", dict := none, data := .set #[] 0 (.fresh 0 0 (!w.params.followText "set-order")) }).push { cls := .type "list_iterator", data := .fields #[.ref l, .int 0 0] }).get? s.heap.objs.size
              = some { cls := .type "set", dict := none, data := .set #[] 0 (.fresh 0 0 (!w.params.followText "set-order")) } := Heap.get?_push_of_some _ hS
          exact ⟨0, Nat.le_refl 0, setR_new_at hget⟩
        case hR =>
          intro s' c' hm hc' hS'
          obtain ⟨h', g2, d', tk', os'⟩ := s'
          have eg : g2 = s.gens := hm.gens
          have ed : d' = s.drawn := hm.drawn
          have eo : os' = s.os := hm.os
          subst eg; subst ed; subst eo
          show wpAny _ _ _ _ _ _
          refine wpAny_pure ?_
          show wpAny _ _ (ret Value.none) _ _ _
          rw [hisz] at hc'
          refine wpAny_pure ⟨rfl, h', tk', c', rfl, hS', hc', fun b o e => ?_⟩
          have hb0 : b < s.heap.objs.size := Heap.lt_size e
          have hb1 : b ≠ s.heap.objs.size := Nat.ne_of_lt hb0
          have hb2 : b ≠ (s.heap.push { cls := .type "set", dict := none, data := .set #[] 0 (.fresh 0 0 (!w.params.followText "set-order")) }).objs.size := by
            rw [Heap.size_push]; exact Nat.ne_of_lt (Nat.lt_succ_of_lt hb0)
          exact hm.heap b o (by simp only [List.mem_cons, List.mem_singleton, List.not_mem_nil, or_false, not_or]; exact ⟨hb1, hb2⟩) (Heap.get?_push_of_some _ (Heap.get?_push_of_some _ e))

      · cases r₂ with
        | error e => exact hr₂
        | ok fl₂ =>
          cases fl₂ with
          | ret r =>
            obtain ⟨rfl, h', tk, c', rfl, hS', hc', hk'⟩ := hr₂
            repeat (any_goals (first | assumption | wp_step))
            exact h _ _ _ hS' hc' hk'
          | _ => exact hr₂.elim
    | _ => exact hr.elim

end
section
variable {P : Program} {w : World} {A : Around} {E : Value → Shared → Prop} {s : Shared} {a : Addr}
theorem sorted_setAny {S : Int → Bool} {n : Nat} {Q : Value → Shared → Prop} (R : SetR w s.heap a S n) (hh : A.handled = none) (h64 : n ≤ 1000)
    (hQ : ∀ s' p (out : Array Value) (c : Nat) (ns : List Int), (∀ b o, s.heap.get? b = some o → s'.heap.get? b = some o) → s'.gens = s.gens → s'.os = s.os → s.heap.objs.size ≤ p →
      s'.heap.get? p = some (seqObj "list" out c) → IntsAre out.toList ns → ns.Pairwise (· < ·) → (∀ k, k ∈ ns ↔ S k = true) → ns.length = n → Q (.ref p) s') :
    wpAny (model P w) A (call (.builtin "sorted") [.ref a]) Q E s := by
  obtain ⟨o, es, ep, t, ho, hex, hd, g, nd, hm, hb, hf, hn, hr, hl⟩ := R
  refine Calls.call_function_entry kind_sorted plain_sorted entry_sorted (args_sorted1 _) ?_
  unfold Builtin.«sorted»
  refine wpAny_bind (m := checkCount "sorted" 1 1 _) (wpAny_pure ?_)
  refine wpAny_bind (collect_set (A := A.in1) hh ⟨o, ho, hex.1, hd⟩ hf hb hr hl fun s1 vs k1 hz g1 o1 pm => ?_)
  have hvl : vs.length = n := by rw [pm.length_eq, List.length_map, Array.length_toList]; exact hn
  have hI : IntsAre vs (vs.map Builtin.Re.reRawOf) := ints_of vs fun v hv => by
    obtain ⟨e, he, q⟩ := List.mem_map.mp (pm.mem_iff.mp hv)
    obtain ⟨k, tk, h1, _⟩ := g e he
    exact ⟨k, tk, by rw [← q]; exact h1⟩
  have pk : (vs.map Builtin.Re.reRawOf).Perm (es.toList.map keyOf) := by
    have q := pm.map Builtin.Re.reRawOf
    rw [List.map_map] at q
    exact q
  refine wpAny_bind (wpAny_newList ?_ (by rw [hvl, sizeLine_eq]; omega))
  have hoL : (s1.heap.push (seqObj "list" vs.toArray 0)).get? s1.heap.objs.size = some (seqObj "list" vs.toArray 0) := Heap.get?_push_size _ rfl
  refine wpAny_bind (wpAny_holding (wpAny_call_entry slot_list_sort ⟨_, hoL, rfl⟩ entry_list_sort (list_sort_treeAny hoL hI (by rw [hvl, sizeLine_eq]; omega) fun out ns' a1 a2 a3 => ⟨_, rfl, ?_⟩) (args_list_sort _)))
  obtain ⟨c, hc⟩ := sortedHeap_at (vs := vs) (out := out) hoL
  have pn : ns'.Perm (es.toList.map keyOf) := a2.trans pk
  refine wpAny_pure ⟨_, rfl, hQ _ s1.heap.objs.size out c ns' (fun b u e => ?_) g1 o1 hz hc a1 (lt_of_le_nodup ns' a3 (pn.nodup_iff.mpr nd)) (fun k => by rw [pn.mem_iff, ← hm k]) ?_⟩
  · have q := k1 b u e
    have hlt := Heap.lt_size q
    show (sortedHeap (s1.heap.push (seqObj "list" vs.toArray 0)) s1.heap.objs.size vs out).get? b = some u
    rw [sortedHeap_old (Nat.ne_of_lt hlt) (by rw [size_push']; exact Nat.lt_succ_of_lt hlt)]
    exact Heap.get?_push_of_some _ q
  · rw [pn.length_eq, List.length_map, Array.length_toList]; exact hn
end
end L2
namespace AK
open PySem PySem.Spec PyProof.Rows L2 Evl Ak
/-- set(xs), a list of ints -/
def rSetI (K : PySem.W.Frag) (w : World) : List V → Hp → VK → Prop := fun xs H Q => ∃ (p : Addr) (ns : List Int), xs = [.ref p] ∧ SqL K H p (ns.map V.int) ∧ ns.length ≤ 1000 ∧
  ∀ (a : Addr) (c : Nat), H a = none → c ≤ ns.length → Q (.ref a) (upd H a (SetO w a (fun j => decide (j ∈ ns)) c))
/-- sorted(set), at most 1000 members -/
def rSortedSetA (w : World) : List V → Hp → VK → Prop := fun vs H Q => ∃ (a : Addr) (S : Int → Bool) (n : Nat), vs = [V.ref a] ∧ H a = some (SetO w a S n) ∧ n ≤ 1000 ∧
  ∀ (ns : List Int) (p : Addr), ns.Pairwise (· < ·) → (∀ k : Int, k ∈ ns ↔ S k = true) → ns.length = n → H p = none → Q (.ref p) (upd H p (.lst (ns.map V.int)))
section
variable {X : Cx} {K : PySem.W.Frag} {w : World}
theorem cr_setI (hc : X.calm = true) : CallR X (.type "set") (rSetI X.K X.w) := by
  intro pins s σ H vs us Q I r h
  obtain ⟨p, ns, rfl, hq, hl, q⟩ := h
  rw [Vals.ref1 r]
  obtain ⟨its, rv, pl, hz⟩ := I.list hq
  have hi : IntsAre its.toArray.toList ns := ints_of_vals rv
  refine call_set_lstI ns (I.ok.hd hc) pl.isList hi (by unfold scanBound; omega) fun h' tk c R hcn k => ?_
  have hn : H s.heap.objs.size = none := I.hok.fresh (Nat.le_refl _)
  obtain ⟨o, _, _, _, ho, _⟩ := id R
  exact ⟨.ref s.heap.objs.size, _, I.laid (t' := tk) k (Nat.le_refl _) (setO_new R), rfl, q _ c hn hcn⟩
theorem cr_sortedSetI (hc : X.calm = true) : CallR X (.builtin "sorted") (rSortedSetA X.w) := by
  intro pins s σ H vs us Q I r h
  obtain ⟨a, S, n, rfl, ha, h64, q⟩ := h
  have R := setO_get I ha
  rw [Vals.ref1 r]
  refine sorted_setAny R (I.ok.hd hc) h64 fun s' p out c ns k g o hp hg hi hs hm hl => ?_
  have hlen : (ns.map V.int).length ≤ sizeLine := by rw [List.length_map, hl, sizeLine_eq]; omega
  have hn : H p = none := I.hok.fresh hp
  have J : Inv X pins σ (upd H p (.lst (ns.map V.int))) { s with heap := s'.heap, gens := s'.gens, drawn := s'.drawn, toks := s'.toks } :=
    I.call (ch := []) (Un.laid k hp hn) (I.hok.laid k hp ⟨hlen, out.toList, c, vals_of_ints hi, hg⟩) (by rw [g]; exact I.bare) (fun _ z => nomatch z)
  have e : s' = { s with heap := s'.heap, gens := s'.gens, drawn := s'.drawn, toks := s'.toks } := by
    cases s'
    cases s
    cases o
    rfl
  rw [e]
  exact ⟨.ref p, _, J, rfl, q ns p hs hm hl hn⟩
end
/-! ### a strictly rising list of the same members -/
def insU (x : Int) : List Int → List Int
  | [] => [x]
  | y :: r => if x < y then x :: y :: r else if x = y then y :: r else y :: insU x r
def sortU (ns : List Int) : List Int := ns.foldr insU []
theorem insU_mem (x : Int) : ∀ (r : List Int) (k : Int), k ∈ insU x r ↔ k = x ∨ k ∈ r
  | [], k => by simp [insU]
  | y :: r, k => by
    unfold insU
    split
    · simp
    · split
      · rename_i h; subst h; simp
      · have ih := insU_mem x r k
        rw [List.mem_cons, ih, List.mem_cons]
        constructor
        · rintro (h | h | h)
          · exact .inr (.inl h)
          · exact .inl h
          · exact .inr (.inr h)
        · rintro (h | h | h)
          · exact .inr (.inl h)
          · exact .inl h
          · exact .inr (.inr h)
theorem insU_srt (x : Int) : ∀ {r : List Int}, r.Pairwise (· < ·) → (insU x r).Pairwise (· < ·)
  | [], _ => by simp [insU]
  | y :: r, h => by
    obtain ⟨h1, h2⟩ := List.pairwise_cons.mp h
    unfold insU
    split
    · rename_i hx
      refine List.pairwise_cons.mpr ⟨fun z hz => ?_, h⟩
      rcases List.mem_cons.mp hz with e | hz
      · rw [e]; exact hx
      · exact Int.lt_trans hx (h1 z hz)
    · split
      · exact h
      · refine List.pairwise_cons.mpr ⟨fun z hz => ?_, insU_srt x h2⟩
        rcases (insU_mem x r z).mp hz with e | hz
        · rw [e]; omega
        · exact h1 z hz
theorem sortU_srt : ∀ ns : List Int, (sortU ns).Pairwise (· < ·)
  | [] => List.Pairwise.nil
  | x :: r => insU_srt x (sortU_srt r)
theorem sortU_mem : ∀ (ns : List Int) (k : Int), k ∈ sortU ns ↔ k ∈ ns
  | [], k => by simp [sortU]
  | x :: r, k => by
    show k ∈ insU x (sortU r) ↔ _
    rw [insU_mem, sortU_mem r, List.mem_cons]
theorem srt_uniq : ∀ {a b : List Int}, a.Pairwise (· < ·) → b.Pairwise (· < ·) → (∀ k, k ∈ a ↔ k ∈ b) → a = b
  | [], [], _, _, _ => rfl
  | [], y :: b, _, _, h => absurd ((h y).mpr (List.mem_cons_self ..)) (by simp)
  | x :: a, [], _, _, h => absurd ((h x).mp (List.mem_cons_self ..)) (by simp)
  | x :: a, y :: b, ha, hb, h => by
    obtain ⟨a1, a2⟩ := List.pairwise_cons.mp ha
    obtain ⟨b1, b2⟩ := List.pairwise_cons.mp hb
    have exy : x = y := by
      rcases List.mem_cons.mp ((h x).mp (List.mem_cons_self ..)) with e | e
      · exact e
      · rcases List.mem_cons.mp ((h y).mpr (List.mem_cons_self ..)) with e2 | e2
        · exact e2.symm
        · have := b1 x e; have := a1 y e2; omega
    subst exy
    congr 1
    refine srt_uniq a2 b2 fun k => ⟨fun hk => ?_, fun hk => ?_⟩
    · rcases List.mem_cons.mp ((h k).mp (List.mem_cons_of_mem _ hk)) with e | e
      · have := a1 k hk; omega
      · exact e
    · rcases List.mem_cons.mp ((h k).mpr (List.mem_cons_of_mem _ hk)) with e | e
      · have := b1 k hk; omega
      · exact e
theorem sortU_eq {ns : List Int} : ns = sortU ns ↔ ns.Pairwise (· < ·) :=
  ⟨fun h => h ▸ sortU_srt ns, fun h => srt_uniq h (sortU_srt ns) fun k => (sortU_mem ns k).symm⟩
theorem rises_iff {n : Int} : ∀ {ns : List Int} {last : Int}, rises n last ns = true ↔ ns.Pairwise (· < ·) ∧ ∀ x ∈ ns, last < x ∧ x < n
  | [], _ => by simp [rises]
  | x :: r, last => by
    simp only [rises, Bool.and_eq_true, decide_eq_true_eq]
    rw [rises_iff, List.pairwise_cons]
    constructor
    · rintro ⟨⟨h1, h2⟩, h3, h4⟩
      refine ⟨⟨fun y hy => (h4 y hy).1, h3⟩, fun y hy => ?_⟩
      rcases List.mem_cons.mp hy with e | hy
      · rw [e]; exact ⟨h1, h2⟩
      · have := h4 y hy; omega
    · rintro ⟨⟨h1, h2⟩, h3⟩
      exact ⟨h3 x (List.mem_cons_self ..), h2, fun y hy => ⟨h1 y hy, (h3 y (List.mem_cons_of_mem _ hy)).2⟩⟩
theorem areP_eq (n : Nat) (ns : List Int) : areP n ns = (decide (ns = sortU ns) && ns.all fun x => decide (0 ≤ x) && decide (x < n)) := by
  rw [Bool.eq_iff_iff]
  unfold areP
  rw [rises_iff, Bool.and_eq_true, decide_eq_true_eq, sortU_eq, List.all_eq_true]
  constructor
  · rintro ⟨h1, h2⟩
    exact ⟨h1, fun x hx => by have := h2 x hx; simp; omega⟩
  · rintro ⟨h1, h2⟩
    exact ⟨h1, fun x hx => by have := h2 x hx; simp at this; omega⟩
section
variable {K : PySem.W.Frag} {w : World} {σ : St} {H : Hp} {te : TE}
theorem el_sortedSet {ns : List Int} (h : EvQ K te σ H (ns.map V.int)) (hl : ns.length ≤ 1000) : EvL (tCB (rSortedSetA w) (tCons (tCB (rSetI K w) (tCons te tNil)) tNil)) σ H ((sortU ns).map V.int) := fun H1 e Q q =>
  h H1 e _ fun p H2 e2 hp => ⟨p, ns, rfl, hp, hl, fun a c ha hc => ⟨a, _, c, rfl, upd_same, by omega, fun ms r hs hm _ hr => by
    have em : ms = sortU ns := srt_uniq hs (sortU_srt ns) fun k => by rw [hm, sortU_mem, decide_eq_true_eq]
    have ex : Ex H1 (upd H2 a (SetO w a (fun j => decide (j ∈ ns)) c)) := e2.trans (Ex.new ha)
    rw [em]
    exact q r _ (fresh_back ex hr) (ex.trans (Ex.new hr)) upd_same⟩⟩
end
end AK

namespace AK
open PySem PySem.Spec PyProof.Rows L2 Evl Ak
/-! ### own classes -/
structure OwnC (K : PySem.W.Frag) (C : Addr) : Prop where
  cl : Cls K C
  na : NoAttr K C "people"
  ha : PySem.W.findIn K (.ref C) "__class__" = some (some (.builtin "object.__class__"))
  hn : PySem.W.specialIn K (.builtin "object.__class__") "__get__" = some (some (.builtin "getset_descriptor.__get__"))
  htk : PySem.W.takesIn K (.builtin "object.__class__") = some true
  hm : PySem.W.mroIn K C (.type "object") = some true
/-- which of the classes each is -/
structure Kit3 (K : PySem.W.Frag) (cA cK cU : Addr) : Prop where
  kA : PySem.W.kitOne K (.ref cK) (.ref cA) = some true
  kK : PySem.W.kitOne K (.ref cK) (.ref cK) = some true
  kU : PySem.W.kitOne K (.ref cK) (.ref cU) = some false
  uA : PySem.W.kitOne K (.ref cU) (.ref cA) = some true
  uK : PySem.W.kitOne K (.ref cU) (.ref cK) = some false
  uU : PySem.W.kitOne K (.ref cU) (.ref cU) = some true
/-- at x an answer of the class C stands, its people a list -/
def AnsAt (H : Hp) (x C : Addr) (ns : List V) : Prop := ∃ dx l, H x = some (.ins C dx (putF "people" (.ref l) [])) ∧ H l = some (.lst ns)
theorem AnsAt.ex {H H' : Hp} {x C : Addr} {ns : List V} (h : AnsAt H x C ns) (e : Ex H H') : AnsAt H' x C ns := let ⟨dx, l, a, b⟩ := h; ⟨dx, l, e _ _ a, e _ _ b⟩
theorem people_get (l : Addr) : (putF "people" (.ref l) []).lookup ("people" : Str) = some (V.ref l) := by rw [lookup_putF, if_pos rfl]
theorem people_no (l : Addr) {m : Str} (h : ¬ m = "people") : (putF "people" (.ref l) []).lookup m = none := by rw [lookup_putF, if_neg h]; rfl
def HasMk (P : Program) (w : World) (K : PySem.W.Frag) (mg : Str → Option Value) (base : Heap) (CX : CXT) (k : Nat) (x : Str) (C : Addr) (ps : List Str) (sp : Sp) : Prop :=
  ∃ f fd, mg x = some (.ref C) ∧ Mk K C f ∧ Binds K fd ps [] ∧ FnOk P w K mg base CX k f fd ps sp
def HasM (P : Program) (w : World) (K : PySem.W.Frag) (mg : Str → Option Value) (base : Heap) (CX : CXT) (k : Nat) (C : Addr) (m : Str) (ps : List Str) (sp : Sp) : Prop :=
  ∃ f fd, Cls K C ∧ Meth K C m f ∧ Binds K fd ps [] ∧ FnOk P w K mg base CX k f fd ps sp
def AtMk (K : PySem.W.Frag) (mg : Str → Option Value) (x : Str) (C : Addr) (qual : Str) (st : Stmt) (ps : List Str) : Prop := ∃ f fd, Fun K "__init__" qual st f fd ∧ mg x = some (.ref C) ∧ Mk K C f ∧ Binds K fd ps []
def AtM (K : PySem.W.Frag) (C : Addr) (m qual : Str) (st : Stmt) (ps : List Str) : Prop := ∃ f fd, Fun K m qual st f fd ∧ Cls K C ∧ Meth K C m f ∧ Binds K fd ps []
section
variable {P : Program} {w : World} {K : PySem.W.Frag} {mg : Str → Option Value} {base : Heap}
theorem hasMk_of {x qual : Str} {C : Addr} {st : Stmt} {N ps : List Str} {k : Nat} {sp : Sp} (D : AtMk K mg x C qual st ps) (S : FnScope N ps (defScope st)) (len : ∀ vs H Q E, sp vs H Q E → vs.length = ps.length)
    (hbody : ∀ (f : Addr) (cdv : Value) (A : Around) (outer : List Env) (s : Shared) (H : Hp) (vs : List V) (Q : VK) (E : XK), Room k (A.deeper (envOfC qual (defScope st) s.heap.objs.size f cdv)) → sp vs H Q E →
      ∃ t, PSs (cxOf CX0 P w K mg base N qual (defScope st) f cdv A outer s H E).nox (defBody st) t ∧ t { nx := fun _ H' => Q .non H', rt := Q } (start N vs) H) : HasMk P w K mg base CX0 (k + 1) x C ps sp := by
  obtain ⟨f, fd, F, m, mk, b⟩ := D
  exact ⟨f, fd, m, mk, b, F.ok S len (hbody f)⟩
theorem hasM_of {m qual : Str} {C : Addr} {st : Stmt} {N ps : List Str} {k : Nat} {sp : Sp} (D : AtM K C m qual st ps) (S : FnScope N ps (defScope st)) (len : ∀ vs H Q E, sp vs H Q E → vs.length = ps.length)
    (hbody : ∀ (f : Addr) (cdv : Value) (A : Around) (outer : List Env) (s : Shared) (H : Hp) (vs : List V) (Q : VK) (E : XK), Room k (A.deeper (envOfC qual (defScope st) s.heap.objs.size f cdv)) → sp vs H Q E →
      ∃ t, PSs (cxOf CX0 P w K mg base N qual (defScope st) f cdv A outer s H E).nox (defBody st) t ∧ t { nx := fun _ H' => Q .non H', rt := Q } (start N vs) H) : HasM P w K mg base CX0 (k + 1) C m ps sp := by
  obtain ⟨f, fd, F, cl, me, b⟩ := D
  exact ⟨f, fd, cl, me, b, F.ok S len (hbody f)⟩
end
theorem hmake {X : Cx} {x : Str} {C : Addr} {ps : List Str} {sp : Sp} {k : Nat} {p pos : Pos} {e : Expr} {es : List Expr} {t : TA} (h : HasMk X.prog X.w X.K X.mg X.base CX0 k x C ps sp) (hr : Room (k + 1) X.A) (ha : PA X (e :: es) t) (hg : Gl X x := by rfl) (hd : (x == ("__debug__" : Str)) = false := by decide)
    (hs : starEach (e :: es) X.env = (false, eval e X.env) :: starEach es X.env := by rfl) (hpl : (backTo pos (starEach es X.env)).any (·.1) = false := by rfl) :
    PE X (.Call (.Name x p) (e :: es) [] pos) (tMake C sp [] E0 t) := by
  obtain ⟨f, fd, m, mk, b, G⟩ := h
  exact pe_make mk G hr hg m b .nil pass0 ha hd hs hpl
theorem hmeth {X : Cx} {m : Str} {C : Addr} {ps : List Str} {sp : Sp} {k : Nat} {pos apos : Pos} {o e : Expr} {es : List Expr} {to : TE} {t : TA} {pl : Sem Bool} (h : HasM X.prog X.w X.K X.mg X.base CX0 k C m ps sp) (hr : Room k X.A) (ho : PE X o to) (ha : PA X (e :: es) t)
    (hst : starEach (e :: es) X.env = (false, eval e X.env) :: starEach es X.env := by rfl) (hpl : (backTo pos (starEach es X.env)).any (·.1) = false := by rfl)
    (ht : eval (.Call (.Attribute o m apos) (e :: es) [] pos) X.env = (do
      let ov ← eval o X.env
      standAt apos.atName
      let (f, first) ← holding [ov] (getMethod ov m pl)
      callWith pos f first (backTo pos (starEach (e :: es) X.env)) (backToKw pos (keywordEach [] X.env))) := by rfl) :
    PE X (.Call (.Attribute o m apos) (e :: es) [] pos) (tMeth C m sp [] E0 to t) := by
  obtain ⟨f, fd, cl, me, b, G⟩ := h
  exact pe_meth (pl := pl) ho cl me G hr b .nil pass0 ha hst hpl ht
/-- one of two readings -/
def tOr2 (t1 t2 : TE) : TE := fun σ H Q => t1 σ H Q ∨ t2 σ H Q
theorem pe_or2 {X : Cx} {e : Expr} {t1 t2 : TE} (h1 : PE X e t1) (h2 : PE X e t2) : PE X e (tOr2 t1 t2) :=
  ⟨fun pins s σ H Q I h => h.elim (h1.run pins s σ H Q I) (h2.run pins s σ H Q I)⟩
theorem gcls {X : Cx} {x : Str} {C : Addr} {pos : Pos} (h : X.mg x = some (.ref C)) (hg : Gl X x := by rfl) (hd : (x == ("__debug__" : Str)) = false := by decide) : PE X (.Name x pos) (tC (.ref C)) :=
  pe_glob (v := .ref C) hg h rfl hd
/-! ### evaluations -/
/-- a new answer -/
def EvM (te : TE) (σ : St) (H : Hp) (C : Addr) (ns : List V) : Prop := ∀ H1, Ex H H1 → ∀ Q : VK, (∀ x H2, H1 x = none → Ex H1 H2 → AnsAt H2 x C ns → Q (.ref x) H2) → te σ H1 Q
/-- what __init__ of an answer does -/
def spAns (K : PySem.W.Frag) (C : Addr) : Sp := fun vs H Q _ => ∃ (x dx p : Addr) (ns : List V), vs = [.ref x, .ref p] ∧ H x = some (.ins C dx []) ∧ SqL K H p ns ∧ ∀ l, H l = none → Q .non (upd (upd H l (.lst ns)) x (.ins C dx (putF "people" (.ref l) [])))
section
variable {K : PySem.W.Frag} {σ : St} {H H0 Hw H' : Hp} {ta tb tc te tl : TE} {t : TT} {tz tu tw : TS} {D : Ends} {xs ys : List V} {x C cA cK cU : Addr} {ns : List V}
theorem em_make (h : EvQ K te σ H ns) : EvM (tMake C (spAns K C) [] E0 (tCons te tNil)) σ H C ns := fun H1 e Q q =>
  h H1 e _ fun p H2 e2 hp x dx hx hdx ne => by
    have e3 : Ex H2 (upd (upd H2 dx (.own x)) x (.ins C dx [])) := fun a o ha => by
      have h1 : a ≠ x := fun z => by rw [z, hx] at ha; cases ha
      have h2 : a ≠ dx := fun z => by rw [z, hdx] at ha; cases ha
      rw [upd_ne h1, upd_ne h2]; exact ha
    refine ⟨x, dx, p, ns, rfl, upd_same, ex_l e3 hp, fun l hl => ⟨rfl, ?_⟩⟩
    have nlx : l ≠ x := fun z => by rw [z, upd_same] at hl; cases hl
    have e4 : Ex H2 (upd (upd (upd (upd H2 dx (.own x)) x (.ins C dx [])) l (.lst ns)) x (.ins C dx (putF "people" (.ref l) []))) := Ex.mut (e3.trans (Ex.new hl)) hx
    exact q x _ (fresh_back e2 hx) (e2.trans e4) ⟨dx, l, upd_same, by rw [upd_ne nlx, upd_same]⟩
theorem ev_fld (h : Ev te σ H (.ref x)) (hC : OwnC K C) {dx l : Addr} (hx : H0 x = some (.ins C dx (putF "people" (.ref l) []))) (e0 : Ex H0 H) : Ev (tFld K te "people") σ H (.ref l) := fun H1 e Q q =>
  h H1 e _ fun H2 e2 => ⟨x, C, dx, _, _, rfl, ((e0.trans e).trans e2) _ _ hx, hC.cl, hC.na, people_get l, q H2 e2⟩
theorem eq_fld (h : Ev te σ H (.ref x)) (hC : OwnC K C) (hx : AnsAt H0 x C ns) (e0 : Ex H0 H) : EvQ K (tFld K te "people") σ H ns := fun H1 e Q q => by
  obtain ⟨dx, l, h1, h2⟩ := hx
  exact h H1 e _ fun H2 e2 => ⟨x, C, dx, _, _, rfl, ((e0.trans e).trans e2) _ _ h1, hC.cl, hC.na, people_get l, q l H2 e2 (SqL.of (((e0.trans e).trans e2) _ _ h2))⟩
theorem ev_isC {C' : Addr} {b : Bool} (ha : Ev ta σ H (.ref x)) (hc : Ev tb σ H (.ref C')) (hC : OwnC K C) (hx : AnsAt H0 x C ns) (e0 : Ex H0 H) (hk : PySem.W.kitOne K (.ref C) (.ref C') = some b) : Ev (tCB (rIsi K) (tCons ta (tCons tb tNil))) σ H (.bl b) := fun H1 e Q q => by
  obtain ⟨dx, l, h1, h2⟩ := hx
  exact ha H1 e _ fun H2 e2 => hc H2 (e.trans e2) _ fun H3 e3 => ⟨.ref x, .ref C', .ref C, .ref C', b, rfl, .own C', .base (.ins ((((e0.trans e).trans e2).trans e3) _ _ h1) hC.cl hC.ha hC.hn hC.htk hC.hm), hk, q H3 (e2.trans e3)⟩
theorem ev_or2l {t1 t2 : TE} {v : V} (h : Ev t1 σ H v) : Ev (tOr2 t1 t2) σ H v := fun H1 e Q q => .inl (h H1 e Q q)
theorem ev_or2r {t1 t2 : TE} {v : V} (h : Ev t2 σ H v) : Ev (tOr2 t1 t2) σ H v := fun H1 e Q q => .inr (h H1 e Q q)
theorem ev_meth {m : Str} {sp : Sp} {t : TA} {vs : List V} {v : V} (h : Ev te σ H (.ref x)) (hx : AnsAt H0 x C ns) (e0 : Ex H0 H) (hm : ¬ m = "people") (ha : EvA t σ H vs) (hs : SpV sp (.ref x :: vs) H v) : Ev (tMeth C m sp [] E0 te t) σ H v := fun H1 e Q q => by
  obtain ⟨dx, l, h1, h2⟩ := hx
  exact h H1 e _ fun H2 e2 => ⟨x, dx, _, rfl, ((e0.trans e).trans e2) _ _ h1, people_no l hm, ha H2 (e.trans e2) _ fun H3 e3 => by
    rw [List.append_nil]
    exact hs H3 ((e.trans e2).trans e3) Q (fun H4 e4 => q H4 ((e2.trans e3).trans e4)) _⟩
theorem s_retM (h : EvM te σ H C ns) (k : ∀ x H1, H x = none → Ex H H1 → AnsAt H1 x C ns → D.rt (.ref x) H1) : tRet te D σ H := h H (Ex.refl H) _ k
theorem q_asgM {i : Nat} (h : EvM te σ H C ns) (k : ∀ x H1, H x = none → Ex H H1 → AnsAt H1 x C ns → tz D (σ.set i (some (.ref x))) H1) : tSeq (tAsg te (gName i)) tz D σ H := h H (Ex.refl H) _ k
theorem ev_isTrue {b : Bool} (h : Ev ta σ H (.bl b)) : Ev (tOp rIsB ta (tC (.bl true))) σ H (.bl b) := fun H1 e Q q =>
  h H1 e _ fun H2 e2 => ⟨b, true, rfl, rfl, by
    have : decide (b = true) = b := by cases b <;> rfl
    rw [this]; exact q H2 e2⟩
theorem ev_eqB {a b : Bool} (h : Ev ta σ H (.bl a)) (h2 : Ev tb σ H (.bl b)) : Ev (tOp rEq ta tb) σ H (.bl (a == b)) := ev_is (ev_op h h2 (rv_eq rfl)) (by cases a <;> cases b <;> rfl)
end
/-- the answer's own word: people of the web, and each two of them so -/
def showsB (n : Nat) (k : Rel) (b : Bool) (ns : List Int) : Bool := areP n ns && allAs k b (ns.map Int.toNat)
end AK
namespace AK
open PySem PySem.Spec PyProof.Rows L2 Evl Ak
/-- a call whose answer is one of many -/
theorem q_asgC {σ : St} {H : Hp} {tz : TS} {D : Ends} {i : Nat} {sp : Sp} {E : XK} {ta : TA} {vs : List V} (h : EvA ta σ H vs) (k : ∀ H1, Ex H H1 → sp vs H1 (fun v H2 => tz D (σ.set i (some v)) H2) E) : tSeq (tAsg (tCall sp [] E ta) (gName i)) tz D σ H :=
  h H (Ex.refl H) _ fun H1 e => by
    rw [List.append_nil]
    exact k H1 e
end AK

namespace AK
open PySem PySem.Spec PyProof.Rows L2 Evl Ak
/-! ### text[::-1], list[::-1] -/
def revS (z : Str) : Str := ⟨z.cps.toList.reverse.toArray⟩
def tRevS (te : TE) : TE := fun σ H Q => te σ H fun x H1 => ∃ z, x = .str z ∧ z.length ≤ sizeLine ∧ Q (.str (revS z)) H1
theorem rev_pick (z : Str) : (Builtin.Str.strSliceIndices none none (-1) z.length).filterMap (z.cps[·]?) = z.cps.toList.reverse := by
  have e : Builtin.Str.strSliceIndices none none (-1) z.length = sliceRange ((z.length : Int) - 1) (-1) (-1) := rfl
  rw [e, PySem.W.krv_sliceRange, PySem.W.krv_range, List.filterMap_reverse]
  congr 1
  exact PySem.W.krv_all z.cps
theorem pe_revS {X : Cx} {e : Expr} {te : TE} {k : Nat} {p1 p2 p3 pos : Pos} (he : PE X e te) : PE X (.Subscript e (.Slice none none (some (.UnaryOp .USub (.Constant (.int 1) k p1) p2)) p3) pos) (tRevS te) := by
  refine ⟨fun pins s σ H Q I h => ?_⟩
  refine Subscript_ (thn (he.run pins s σ H _ I h) fun v s1 ⟨x, H1, I1, r1, q1⟩ => ?_)
  obtain ⟨z, ex, hz, q⟩ := q1
  subst ex
  obtain ⟨t, rfl⟩ := r1
  have hst : PO X (some (.UnaryOp .USub (.Constant (.int 1) k p1) p2)) (tPart (tUn (rU fun i => .int (-i)) (tC (.int 1)))) := po_some (pe_un un_neg pe_int)
  refine wpAny_Slice (thn (po_none.run pins s1 σ H1 (fun o H2 => o = none ∧ H2 = H1) I1 ⟨rfl, rfl⟩) fun vl s2 ⟨l, H2, I2, pl, el, e2⟩ => ?_)
  subst el e2
  refine thn (po_none.run pins s2 σ H2 (fun o H3 => o = none ∧ H3 = H2) I2 ⟨rfl, rfl⟩) fun vu s3 ⟨u, H3, I3, pu, eu, e3⟩ => ?_
  subst eu e3
  refine thn (hst.run pins s3 σ H3 (fun o H4 => o = some (-1) ∧ H4 = H3) I3 ⟨1, rfl, -1, rfl, rfl, rfl⟩) fun vs s4 ⟨o, H4, I4, ps, eo, e4⟩ => ?_
  subst eo e4
  have I5 : Inv X pins σ H4 { s4 with heap := s4.heap.push { cls := .type "slice", data := .fields #[vl, vu, vs] } } := I4.kept (t' := s4.toks) fun b ob q => Heap.get?_push_of_some _ q
  show wpAny (model X.prog X.w) X.A (subscriptTail e (.Slice none none (some (.UnaryOp .USub (.Constant (.int 1) k p1) p2)) p3) (.str z t) (.ref s4.heap.objs.size)) (EP X pins σ Q) X.xe { s4 with heap := s4.heap.push { cls := .type "slice", data := .fields #[vl, vu, vs] } }
  refine tail_any (ops := [.str z t, .ref s4.heap.objs.size]) (typeIs_str _ _ _) (F.slot_str_getitem.lookup) ?_ (by with_unfolding_all rfl)
  obtain ⟨os, hos, hcs, hds⟩ := Heap.IsSliceOf.new s4.heap vl vu vs
  obtain ⟨l, rfl, hl⟩ := IsPart.raw pl
  obtain ⟨u, rfl, hu⟩ := IsPart.raw pu
  obtain ⟨st, rfl, hs⟩ := IsPart.raw ps
  refine wpAny_getItem_str_slice (l := l) (u := u) (st := st) ⟨os, hos, hcs, hds⟩ (by rw [hs]; rfl) ?_
  show Made.post (if (((st.map (·.1)).getD 1) == 1 && (Builtin.Str.strSliceIndices (l.map (·.1)) (u.map (·.1)) ((st.map (·.1)).getD 1) z.length).length == z.length) = true then Made.val (.str z t)
    else Made.str ⟨((Builtin.Str.strSliceIndices (l.map (·.1)) (u.map (·.1)) ((st.map (·.1)).getD 1) z.length).filterMap (z.cps[·]?)).toArray⟩) (EP X pins σ Q) _
  rw [hl, hu, hs]
  rw [if_neg (by simp), show (some (-1 : Int)).getD 1 = -1 from rfl, rev_pick]
  refine ⟨?_, .str (revS z), H4, I5.tok _, ⟨_, rfl⟩, q⟩
  show (z.cps.toList.reverse.toArray).size ≤ _
  rw [List.size_toArray, List.length_reverse, Array.length_toList]; exact hz
theorem rev_row (n : Nat) (f : Nat → Bool) : revS (rowS n f) = rowS n fun j => f (n - 1 - j) := by
  unfold revS rowS
  congr 2
  show ((List.range n).map fun j => sgN (f j)).reverse = _
  rw [← List.map_reverse, ← PySem.W.krv_range, List.map_map]; rfl
theorem rev_map {α : Type} (n : Nat) (f : Nat → α) : ((List.range n).map f).reverse = (List.range n).map fun i => f (n - 1 - i) := by
  rw [← List.map_reverse, ← PySem.W.krv_range, List.map_map]; rfl
section
variable {K : PySem.W.Frag} {σ : St} {H : Hp} {te : TE} {xs : List V} {n : Nat}
theorem el_revL (h : EvQ K te σ H xs) : EvL (tRevL K te) σ H xs.reverse := fun H1 e Q q =>
  h H1 e _ fun p H2 e2 hp => ⟨p, xs, rfl, hp, fun r hr => q r _ (fresh_back e2 hr) (e2.trans (Ex.new hr)) upd_same⟩
theorem ev_revRow {f : Nat → Bool} (h : Ev te σ H (.str (rowS n f))) (hn : n ≤ 200) : Ev (tRevS te) σ H (.str (rowS n fun j => f (n - 1 - j))) := fun H1 e Q q =>
  h H1 e _ fun H2 e2 => ⟨_, rfl, by rw [row_len]; exact sz_of (by omega), by rw [rev_row]; exact q H2 e2⟩
/-- row[:m] -/
theorem cut_row {f : Nat → Bool} {m : Nat} : cutS (rowS n f) none (some (m : Int)) = rowS (min m n) f := by
  unfold cutS
  rw [HT.sIx_none, HT.sIx_nat, row_len]
  simp only [List.drop_zero, Nat.sub_zero]
  unfold rowS
  congr 2
  show ((List.range n).map fun j => sgN (f j)).take (min m n) = _
  rw [← List.map_take, List.take_range, Nat.min_eq_left (Nat.min_le_right _ _)]
theorem ev_cutRow {f : Nat → Bool} {m : Nat} {tl th : TO} (h : Ev te σ H (.str (rowS n f))) (hn : n ≤ 200) (h1 : EvO tl σ H none) (h2 : EvO th σ H (some (m : Int))) : Ev (tSl rSlS te tl th) σ H (.str (rowS (min m n) f)) := fun H1 e Q q =>
  h H1 e _ fun H2 e2 => h1 H2 (e.trans e2) _ fun H3 e3 => h2 H3 ((e.trans e2).trans e3) _ fun H4 e4 => ⟨_, rfl, by rw [row_len]; exact sz_of (by omega), by
    rw [cut_row]
    exact q H4 ((e2.trans e3).trans e4)⟩
end
end AK
namespace AK
open PySem PySem.Spec PyProof.Rows L2 Evl Ak
section
variable {K : PySem.W.Frag} {σ : St} {H : Hp} {te tl : TE} {xs : List V} {n : Nat}
theorem ewn_listR {it : Nat → V} (h : EvQ K tl σ H ((List.range n).map it)) : EvWN (iList K tl) σ H n it :=
  (ewn_list h).of_eq (by simp) fun i hi => getD_eq (by
    have hi' : i < n := by simpa using hi
    rw [List.getElem?_map, List.getElem?_range hi']; rfl)
theorem take_range {α : Type} (f : Nat → α) (m n : Nat) : ((List.range n).map f).take m = (List.range (min m n)).map f := by
  rw [← List.map_take, List.take_range]
theorem cut_last (xs : List V) (v : V) : cutV (xs ++ [v]) none (some (-1)) = xs := by
  unfold cutV
  rw [HT.sIx_none]
  have e : HT.sIx (xs ++ [v]).length (xs ++ [v]).length (some (-1)) = xs.length := by
    unfold HT.sIx
    simp only [List.length_append, List.length_cons, List.length_nil]
    rw [if_pos (by decide)]
    omega
  rw [e]
  simp
end
theorem IsW.le {m n : Nat} {k : Rel} (h : IsW n k) (hm : m ≤ n) : IsW m k := ⟨fun i j hi hj => h.sym i j (by omega) (by omega), fun i hi => h.irr i (by omega)⟩
theorem turn_alikeN {n : Nat} {k : Rel} (h : IsW n k) : alikeN n (turn k) = alikeN n k := by rw [← alike_eq h, ← alike_eq h.turn, turn_alike h]
def degL (n : Nat) (k : Rel) : List Int := (List.range n).map fun i => deg n k i
end AK
namespace AK
open PySem PySem.Spec PyProof.Rows L2 Evl Ak
theorem kit_own {K : PySem.W.Frag} {C C' : Addr} (h1 : PySem.W.isClsIn K C' = true) (h2 : PySem.W.typeIn K (.ref C') = some (.type "type")) (h3 : PySem.W.subIn K (.ref C) (.ref C') = some true) : PySem.W.kitOne K (.ref C) (.ref C') = some true := by
  have e : ((PySem.W.clsIn K C').isSome && PySem.W.typeIn K (.ref C') == some (.type "type")) = true := by
    have h1' : (PySem.W.clsIn K C').isSome = true := h1
    rw [h1', h2] <;> rfl
  unfold PySem.W.kitOne
  split
  · rfl
  · show (if ((PySem.W.clsIn K C').isSome && PySem.W.typeIn K (.ref C') == some (.type "type")) = true then PySem.W.subIn K (.ref C) (.ref C') else none) = some true
    rw [if_pos e, h3]
theorem kit_other {K : PySem.W.Frag} {C C' : Addr} (h1 : PySem.W.isClsIn K C' = true) (h2 : PySem.W.typeIn K (.ref C') = some (.type "type")) (h3 : PySem.W.subIn K (.ref C) (.ref C') = some false) (h4 : PySem.W.subIn K (.ref C') (.ref C') = some true) : PySem.W.kitOne K (.ref C) (.ref C') = some false := by
  have e : ((PySem.W.clsIn K C').isSome && PySem.W.typeIn K (.ref C') == some (.type "type")) = true := by
    have h1' : (PySem.W.clsIn K C').isSome = true := h1
    rw [h1', h2] <;> rfl
  unfold PySem.W.kitOne
  split
  · rename_i h
    have : (Value.ref C) = Value.ref C' := by simpa using h
    cases this
    rw [h4] at h3; cases h3
  · show (if ((PySem.W.clsIn K C').isSome && PySem.W.typeIn K (.ref C') == some (.type "type")) = true then PySem.W.subIn K (.ref C) (.ref C') else none) = some false
    rw [if_pos e, h3]
end AK

namespace Ak
/-! weights: a common denominator over one more than each one's number of friends -/
def fct : Nat → Nat
  | 0 => 1
  | n + 1 => (n + 1) * fct n
theorem fct_pos : ∀ n, 0 < fct n
  | 0 => by decide
  | n + 1 => Nat.mul_pos (by omega) (fct_pos n)
theorem fct_dvd {m : Nat} (h0 : 0 < m) : ∀ {n : Nat}, m ≤ n → m ∣ fct n
  | 0, h => by omega
  | n + 1, h => by
    by_cases c : m = n + 1
    · subst c; exact Nat.dvd_mul_right _ _
    · exact Nat.dvd_trans (fct_dvd h0 (show m ≤ n by omega)) (Nat.dvd_mul_left _ _)
def dgN (n : Nat) (k : Rel) (i : Nat) : Nat := (deg n k i).toNat
theorem dgN_eq (n : Nat) (k : Rel) (i : Nat) : (dgN n k i : Int) = deg n k i := by
  have := deg_nn n k i
  unfold dgN; omega
theorem dgN_lt {n : Nat} {k : Rel} (h : IsW n k) {i : Nat} (hi : i < n) : dgN n k i + 1 ≤ n := by
  have h1 := turn_deg h hi
  have h2 := deg_nn n (turn k) i
  have := dgN_eq n k i
  omega
def wgt (n : Nat) (k : Rel) (i : Nat) : Nat := fct n / (dgN n k i + 1)
theorem wgt_mul {n : Nat} {k : Rel} (h : IsW n k) {i : Nat} (hi : i < n) : (dgN n k i + 1) * wgt n k i = fct n :=
  Nat.mul_div_cancel' (fct_dvd (by omega) (dgN_lt h hi))
theorem sm_pick (g : Nat → Int) (x : Nat) : ∀ {n : Nat}, x < n → sm n (fun u => if u = x then g u else 0) = g x
  | 0, h => by omega
  | n + 1, h => by
    show sm n _ + (if n = x then g n else 0) = g x
    by_cases c : n = x
    · subst c
      rw [if_pos rfl]
      have : sm n (fun u => if u = n then g u else 0) = sm n (fun _ => 0) := sm_congr fun i hi => by rw [if_neg (by omega)]
      rw [this, sm_const]; omega
    · rw [if_neg c, sm_pick g x (show x < n by omega)]; omega
/-- how many of a list, counted over all -/
theorem len_sm {n : Nat} (p : Nat → Bool) : ∀ {l : List Nat}, l.Nodup → (∀ u ∈ l, u < n) → ((l.filter p).length : Int) = sm n fun u => b2 (decide (u ∈ l) && p u)
  | [], _, _ => by
    have : (sm n fun u => b2 (decide (u ∈ ([] : List Nat)) && p u)) = sm n fun _ => 0 := sm_congr fun i _ => by simp [b2]
    rw [this, sm_const]; simp
  | x :: l, nd, lt => by
    obtain ⟨n1, n2⟩ := List.nodup_cons.mp nd
    have ih := len_sm p n2 fun u hu => lt u (List.mem_cons_of_mem _ hu)
    have e : (sm n fun u => b2 (decide (u ∈ x :: l) && p u)) = sm n (fun u => if u = x then b2 (p u) else 0) + sm n fun u => b2 (decide (u ∈ l) && p u) := by
      rw [← sm_add]
      refine sm_congr fun u _ => ?_
      by_cases c : u = x
      · subst c
        rw [if_pos rfl]
        simp [n1, b2]
      · rw [if_neg c]
        simp [c]
    rw [e, sm_pick (fun u => b2 (p u)) x (lt x (List.mem_cons_self ..)), ← ih]
    by_cases c : p x = true
    · rw [List.filter_cons_of_pos c, c]; simp [b2]; omega
    · rw [List.filter_cons_of_neg c, Bool.eq_false_iff.mpr c]; simp [b2]
theorem caro_step {n : Nat} {k : Rel} {left : List Nat} {one : Nat} (hk : IsW n k) (nd : left.Nodup) (lt : ∀ u ∈ left, u < n) (h1 : one ∈ left) (hmin : ∀ u ∈ left, (left.filter (k one)).length ≤ (left.filter (k u)).length) :
    sm n (fun u => if u ∈ left ∧ ¬ u ∈ left.filter (fun o => o != one && !k one o) then (wgt n k u : Int) else 0) ≤ fct n := by
  generalize hd : (left.filter (k one)).length = d at hmin
  have hone := lt one h1
  have key : ∀ u, u < n → (if u ∈ left ∧ ¬ u ∈ left.filter (fun o => o != one && !k one o) then (wgt n k u : Int) else 0) ≤ (fct n / (d + 1) : Nat) * ((if u = one then 1 else 0) + b2 (decide (u ∈ left) && k one u)) := by
    intro u hu
    by_cases c : u ∈ left ∧ ¬ u ∈ left.filter (fun o => o != one && !k one o)
    · rw [if_pos c]
      obtain ⟨c1, c2⟩ := c
      have hw : wgt n k u ≤ fct n / (d + 1) := by
        unfold wgt
        refine Nat.div_le_div_left ?_ (by omega)
        have h2 := hmin u c1
        have h3 := len_sm (n := n) (k u) nd lt
        have h4 : (sm n fun v => b2 (decide (v ∈ left) && k u v)) ≤ deg n k u := sm_le fun v _ => by
          cases decide (v ∈ left) <;> cases k u v <;> decide
        have h5 := dgN_eq n k u
        omega
      have h6 : (1 : Int) ≤ (if u = one then 1 else 0) + b2 (decide (u ∈ left) && k one u) := by
        by_cases e : u = one
        · rw [if_pos e]; have := b2_nn (decide (u ∈ left) && k one u); omega
        · rw [if_neg e]
          have : k one u = true := by
            cases hku : k one u with
            | true => rfl
            | false =>
              exact absurd (List.mem_filter.mpr ⟨c1, by rw [hku]; simp [e]⟩) c2
          rw [this, decide_eq_true c1]; decide
      have h7 : (0 : Int) ≤ (fct n / (d + 1) : Nat) := Int.natCast_nonneg _
      have h8 : ((fct n / (d + 1) : Nat) : Int) * 1 ≤ (fct n / (d + 1) : Nat) * ((if u = one then 1 else 0) + b2 (decide (u ∈ left) && k one u)) := Int.mul_le_mul_of_nonneg_left h6 h7
      have h9 : (wgt n k u : Int) ≤ (fct n / (d + 1) : Nat) := Int.ofNat_le.mpr hw
      omega
    · rw [if_neg c]
      refine Int.mul_nonneg (Int.natCast_nonneg _) ?_
      have := b2_nn (decide (u ∈ left) && k one u)
      split <;> omega
  refine Int.le_trans (sm_le key) ?_
  rw [sm_mul, sm_add, sm_pick (fun _ => 1) one hone, ← len_sm (k one) nd lt, hd]
  have h := Nat.div_mul_le_self (fct n) (d + 1)
  have h2 : (((fct n / (d + 1)) * (d + 1) : Nat) : Int) ≤ (fct n : Nat) := Int.ofNat_le.mpr h
  rw [Int.natCast_mul] at h2
  have e : (1 : Int) + (d : Nat) = ((d + 1 : Nat) : Int) := by omega
  rw [e]; exact h2
/-- all weights -/
def wSum (n : Nat) (k : Rel) : Int := sm n fun u => (wgt n k u : Int)
def wOut (n : Nat) (k : Rel) (left : List Nat) : Int := sm n fun u => if u ∈ left then 0 else (wgt n k u : Int)
theorem wOut_nil (n : Nat) (k : Rel) : wOut n k [] = wSum n k := sm_congr fun u _ => by simp
theorem wOut_all (n : Nat) (k : Rel) : wOut n k (List.range n) = 0 := by
  have : wOut n k (List.range n) = sm n fun _ => 0 := sm_congr fun u hu => by rw [if_pos (List.mem_range.mpr hu)]
  rw [this, sm_const]; omega
theorem wOut_step {n : Nat} {k : Rel} {left : List Nat} {one : Nat} (hk : IsW n k) (nd : left.Nodup) (lt : ∀ u ∈ left, u < n) (h1 : one ∈ left) (hmin : ∀ u ∈ left, (left.filter (k one)).length ≤ (left.filter (k u)).length) :
    wOut n k (left.filter (fun o => o != one && !k one o)) ≤ wOut n k left + fct n := by
  have h := caro_step hk nd lt h1 hmin
  have e : wOut n k (left.filter (fun o => o != one && !k one o)) = wOut n k left + sm n (fun u => if u ∈ left ∧ ¬ u ∈ left.filter (fun o => o != one && !k one o) then (wgt n k u : Int) else 0) := by
    unfold wOut
    rw [← sm_add]
    refine sm_congr fun u _ => ?_
    by_cases c : u ∈ left.filter (fun o => o != one && !k one o)
    · rw [if_pos c, if_pos (List.mem_filter.mp c).1, if_neg (fun z => z.2 c)]; rfl
    · rw [if_neg c]
      by_cases c2 : u ∈ left
      · rw [if_pos c2, if_pos ⟨c2, c⟩]; omega
      · rw [if_neg c2, if_neg (fun z => c2 z.1)]; omega
  omega
theorem wSum_pos {n : Nat} {k : Rel} (hk : IsW n k) (hn : 0 < n) : 0 < wSum n k := by
  have h0 : 0 < wgt n k 0 := Nat.div_pos (Nat.le_of_dvd (fct_pos n) (fct_dvd (by omega) (dgN_lt hk hn))) (by omega)
  have h1 : sm n (fun u => if u = 0 then (wgt n k u : Int) else 0) ≤ wSum n k := sm_le fun u _ => by
    split
    · exact Int.le_refl _
    · exact Int.natCast_nonneg _
  rw [sm_pick (fun u => (wgt n k u : Int)) 0 hn] at h1
  omega
/-! the sum as a fraction in lowest terms -/
def frStep (a b m : Nat) : Nat × Nat := ((a * m + b) / Nat.gcd (a * m + b) (b * m), (b * m) / Nat.gcd (a * m + b) (b * m))
def frac (n : Nat) (k : Rel) : Nat → Nat × Nat
  | 0 => (0, 1)
  | i + 1 => frStep (frac n k i).1 (frac n k i).2 (dgN n k i + 1)
structure FrOk (n : Nat) (k : Rel) (i : Nat) : Prop where
  pos : 0 < (frac n k i).2
  cop : Nat.gcd (frac n k i).1 (frac n k i).2 = 1
  eq : (frac n k i).1 * fct n = (frac n k i).2 * (sm i fun u => (wgt n k u : Int)).toNat
theorem gcd_small {a b m : Nat} (h : Nat.gcd a b = 1) (hm : 0 < m) : Nat.gcd (a * m + b) (b * m) ≤ m * m := by
  have d1 := Nat.gcd_dvd_left (a * m + b) (b * m)
  have d2 := Nat.gcd_dvd_right (a * m + b) (b * m)
  generalize Nat.gcd (a * m + b) (b * m) = g at d1 d2
  have d3 : g ∣ a * (m * m) := by
    have h1 : g ∣ (a * m + b) * m := Nat.dvd_trans d1 (Nat.dvd_mul_right _ _)
    have e : (a * m + b) * m = b * m + a * (m * m) := by grind
    rw [e] at h1
    exact (Nat.dvd_add_right d2).mp h1
  have d4 : g ∣ b * (m * m) := by
    have e : b * (m * m) = b * m * m := by grind
    rw [e]
    exact Nat.dvd_trans d2 (Nat.dvd_mul_right _ _)
  have d5 := Nat.dvd_gcd d3 d4
  rw [Nat.gcd_mul_right, h, Nat.one_mul] at d5
  exact Nat.le_of_dvd (Nat.mul_pos hm hm) d5
theorem frOk {n : Nat} {k : Rel} (hk : IsW n k) : ∀ {i : Nat}, i ≤ n → FrOk n k i
  | 0, _ => ⟨Nat.one_pos, by show Nat.gcd 0 1 = 1; decide, by simp [frac, sm]⟩
  | i + 1, h => by
    have ih := frOk hk (i := i) (by omega)
    have hi : i < n := by omega
    have hw := wgt_mul hk hi
    generalize hm : dgN n k i + 1 = m at hw
    have m0 : 0 < m := by omega
    have hp : 0 < (frac n k i).2 * m := Nat.mul_pos ih.pos m0
    have hg : 0 < Nat.gcd ((frac n k i).1 * m + (frac n k i).2) ((frac n k i).2 * m) := Nat.gcd_pos_of_pos_right _ hp
    have e1 : (frac n k (i + 1)).1 = ((frac n k i).1 * m + (frac n k i).2) / Nat.gcd ((frac n k i).1 * m + (frac n k i).2) ((frac n k i).2 * m) := by
      show (frStep _ _ (dgN n k i + 1)).1 = _
      rw [hm]; rfl
    have e2 : (frac n k (i + 1)).2 = ((frac n k i).2 * m) / Nat.gcd ((frac n k i).1 * m + (frac n k i).2) ((frac n k i).2 * m) := by
      show (frStep _ _ (dgN n k i + 1)).2 = _
      rw [hm]; rfl
    have d1 := Nat.gcd_dvd_left ((frac n k i).1 * m + (frac n k i).2) ((frac n k i).2 * m)
    have d2 := Nat.gcd_dvd_right ((frac n k i).1 * m + (frac n k i).2) ((frac n k i).2 * m)
    refine ⟨?_, ?_, ?_⟩
    · rw [e2]; exact Nat.div_pos (Nat.le_of_dvd hp d2) hg
    · rw [e1, e2]; exact Nat.gcd_div_gcd_div_gcd_of_pos_right hp
    · have s1 : (sm (i + 1) fun u => (wgt n k u : Int)).toNat = (sm i fun u => (wgt n k u : Int)).toNat + wgt n k i := by
        have : 0 ≤ sm i fun u => (wgt n k u : Int) := sm_nn fun _ _ => Int.natCast_nonneg _
        show (sm i (fun u => (wgt n k u : Int)) + (wgt n k i : Int)).toNat = _
        omega
      rw [s1]
      have heq := ih.eq
      generalize (sm i fun u => (wgt n k u : Int)).toNat = S at heq ⊢
      rw [e1, e2]
      generalize Nat.gcd ((frac n k i).1 * m + (frac n k i).2) ((frac n k i).2 * m) = g at d1 d2 hg ⊢
      refine Nat.eq_of_mul_eq_mul_left hg ?_
      rw [← Nat.mul_assoc, ← Nat.mul_assoc, Nat.mul_div_cancel' d1, Nat.mul_div_cancel' d2]
      generalize (frac n k i).1 = a at heq ⊢
      generalize (frac n k i).2 = b at heq ⊢
      have : (a * m + b) * fct n = b * m * (S + wgt n k i) := by
        have t1 : (a * m + b) * fct n = m * (a * fct n) + b * fct n := by grind
        have t2 : b * m * (S + wgt n k i) = m * (b * S) + b * (m * wgt n k i) := by grind
        rw [t1, t2, heq, hw]
      exact this
/-- no fewer people than the fraction tells -/
theorem frac_le {n : Nat} {k : Rel} (hk : IsW n k) {m : Nat} (h : wSum n k ≤ (fct n : Int) * m) : (frac n k n).1 ≤ m * (frac n k n).2 := by
  have f := frOk hk (Nat.le_refl n)
  have h0 : 0 ≤ wSum n k := sm_nn fun _ _ => Int.natCast_nonneg _
  have h1 : (wSum n k).toNat ≤ fct n * m := by
    have : ((fct n * m : Nat) : Int) = (fct n : Int) * m := Int.natCast_mul _ _
    omega
  have h2 : (frac n k n).1 * fct n ≤ (m * (frac n k n).2) * fct n := by
    rw [f.eq]
    have : (m * (frac n k n).2) * fct n = (frac n k n).2 * (fct n * m) := by grind
    rw [this]
    exact Nat.mul_le_mul_left _ h1
  exact Nat.le_of_mul_le_mul_right h2 (fct_pos n)
end Ak

namespace AK
open PySem PySem.Spec PyProof.Rows L2 Evl Ak
def RetU (xs : List V) (H : Hp) (Q : VK) : Prop := ∀ p H2, H p = none → Ex H H2 → H2 p = some (.tup xs) → Q (.ref p) H2
def SpU (sp : Sp) (vs : List V) (H : Hp) (xs : List V) : Prop := ∀ H1, Ex H H1 → ∀ Q : VK, (∀ p H2, H1 p = none → Ex H1 H2 → H2 p = some (.tup xs) → Q (.ref p) H2) → ∀ E : XK, sp vs H1 Q E
/-- a new list that is one of many -/
def EvLP (te : TE) (σ : St) (H : Hp) (P : List V → Prop) : Prop := ∀ H1, Ex H H1 → ∀ Q : VK, (∀ p H2 xs, P xs → H1 p = none → Ex H1 H2 → H2 p = some (.lst xs) → Q (.ref p) H2) → te σ H1 Q
/-- a new answer with a new list -/
def AnsNew (H H' : Hp) (x C : Addr) (ns : List V) : Prop := ∃ dx l, H x = none ∧ H l = none ∧ x ≠ l ∧ H' x = some (.ins C dx (putF "people" (.ref l) [])) ∧ H' l = some (.lst ns)
theorem AnsNew.at {H H' : Hp} {x C : Addr} {ns : List V} (h : AnsNew H H' x C ns) : AnsAt H' x C ns := let ⟨dx, l, _, _, _, a, b⟩ := h; ⟨dx, l, a, b⟩
theorem AnsNew.low {H0 H H' : Hp} {x C : Addr} {ns : List V} (h : AnsNew H H' x C ns) (e : Ex H0 H) : AnsNew H0 H' x C ns := let ⟨dx, l, a, b, c, d, f⟩ := h; ⟨dx, l, fresh_back e a, fresh_back e b, c, d, f⟩
def EvMP (te : TE) (σ : St) (H : Hp) (C : Addr) (P : List V → Prop) : Prop := ∀ H1, Ex H H1 → ∀ Q : VK, (∀ x H2 xs, P xs → Ex H1 H2 → AnsNew H1 H2 x C xs → Q (.ref x) H2) → te σ H1 Q
section
variable {K : PySem.W.Frag} {σ : St} {H H0 Hw H' : Hp} {ta tb tc te tl : TE} {t : TT} {tz tu tw : TS} {D : Ends} {xs ys : List V} {x C : Addr} {ns : List V} {P : List V → Prop}
theorem eu_hc {sp : Sp} {E : XK} {ta : TA} {vs : List V} (h : EvA ta σ H vs) (hs : SpU sp vs H xs) : EvU (tCall sp [] E ta) σ H xs := fun H1 e Q q =>
  h H1 e _ fun H2 e2 => by
    rw [List.append_nil]
    exact hs H2 (e.trans e2) Q (fun p H3 hp e3 h3 => q p H3 (fresh_back e2 hp) (e2.trans e3) h3) _
theorem em_makeP (h : EvLP te σ H P) : EvMP (tMake C (spAns K C) [] E0 (tCons te tNil)) σ H C P := fun H1 e Q q =>
  h H1 e _ fun p H2 xs hP hp0 e2 hp x dx hx hdx ne => by
    have e3 : Ex H2 (upd (upd H2 dx (.own x)) x (.ins C dx [])) := fun a o ha => by
      have h1 : a ≠ x := fun z => by rw [z, hx] at ha; cases ha
      have h2 : a ≠ dx := fun z => by rw [z, hdx] at ha; cases ha
      rw [upd_ne h1, upd_ne h2]; exact ha
    refine ⟨x, dx, p, xs, rfl, upd_same, ex_l e3 (SqL.of hp), fun l hl => ⟨rfl, ?_⟩⟩
    have nlx : l ≠ x := fun z => by rw [z, upd_same] at hl; cases hl
    have e4 : Ex H2 (upd (upd (upd (upd H2 dx (.own x)) x (.ins C dx [])) l (.lst xs)) x (.ins C dx (putF "people" (.ref l) []))) := Ex.mut (e3.trans (Ex.new hl)) hx
    have hl2 : H2 l = none := by
      by_cases c : l = dx
      · rw [c]; exact hdx
      · rw [upd_ne nlx, upd_ne c] at hl; exact hl
    exact q x _ xs hP (e2.trans e4) ⟨dx, l, fresh_back e2 hx, fresh_back e2 hl2, nlx.symm, upd_same, by rw [upd_ne nlx, upd_same]⟩
theorem s_retMP (h : EvMP te σ H C P) (k : ∀ x H1 xs, P xs → Ex H H1 → AnsNew H H1 x C xs → D.rt (.ref x) H1) : tRet te D σ H := h H (Ex.refl H) _ k
theorem ev_methP {m : Str} {sp : Sp} {t : TA} {vs : List V} {v : V} (h : EvMP te σ H C P) (hm : ¬ m = "people") (ha : EvA t σ H vs) (hs : ∀ x H1 xs, P xs → Ex H H1 → AnsAt H1 x C xs → SpV sp (.ref x :: vs) H1 v) : Ev (tMeth C m sp [] E0 te t) σ H v := fun H1 e Q q =>
  h H1 e _ fun x H2 xs hP e2 hA0 => by
    have hA := hA0.at
    obtain ⟨dx, l, h1, h2⟩ := id hA
    exact ⟨x, dx, _, rfl, h1, people_no l hm, ha H2 (e.trans e2) _ fun H3 e3 => by
      rw [List.append_nil]
      exact hs x H2 xs hP (e.trans e2) hA H3 e3 Q (fun H4 e4 => q H4 ((e2.trans e3).trans e4)) _⟩
/-- list(range(n)) -/
theorem el_listRg {n : Nat} (h : Ev te σ H (.int (n : Nat))) (hn : n ≤ 1000000) : EvL (tLstRg (tRg1 te)) σ H (natsV (List.range n)) := fun H1 e Q q =>
  h H1 e _ fun H2 e2 => ⟨(n : Int), rfl, RgOk.of_le (by decide) (by omega) (by decide) (by omega), fun r hr => by
    have er : rgV 0 (n : Int) = natsV (List.range n) := by
      unfold rgV natsV
      rw [show ((n : Int) - 0).toNat = n by omega]
      exact List.map_congr_left fun i _ => by rw [Int.zero_add]
    rw [er]
    exact q r _ (fresh_back e2 hr) (e2.trans (Ex.new hr)) upd_same⟩
theorem given_filter {α : Type} (d : α) (p : α → Bool) (g : α → V) (l : List α) : given l.length (fun i => p (l.getD i d)) (fun i => g (l.getD i d)) = (l.filter p).map g := by
  have e : (List.range l.length).map (fun i => l.getD i d) = l := by
    apply List.ext_getElem?
    intro i
    by_cases hi : i < l.length
    · rw [List.getElem?_map, List.getElem?_range hi, Option.map_some, List.getD_eq_getElem?_getD, List.getElem?_eq_getElem hi]; rfl
    · simp [hi] <;> omega
  unfold given
  conv => rhs; rw [← e]
  rw [List.filter_map, List.map_map]; rfl
theorem map_getD {α β : Type} (d : α) (g : α → β) (l : List α) : (List.range l.length).map (fun i => g (l.getD i d)) = l.map g := by
  apply List.ext_getElem?
  intro i
  by_cases hi : i < l.length
  · rw [List.getElem?_map, List.getElem?_range hi, Option.map_some, List.getD_eq_getElem?_getD, List.getElem?_eq_getElem hi, List.getElem?_map, List.getElem?_eq_getElem hi]; rfl
  · simp [hi] <;> omega
/-- xs.index(v), ints -/
theorem ev_index {p : Addr} {ns : List Int} {v : Int} {j : Nat} (h : Ev ta σ H (.ref p)) (hp : SqL K H0 p (ns.map V.int)) (e0 : Ex H0 H) (hv : Ev tb σ H (.int v)) (hj : ns[j]? = some v) (hno : ∀ m z, m < j → ns[m]? = some z → z ≠ v) : Ev (tBM K "list" (rIndex K) ta (tCons tb tNil)) σ H (.int (j : Nat)) := fun H1 e Q q =>
  h H1 e _ fun H2 e2 => ⟨Or.inl ⟨rfl, _, ex_l ((e0.trans e).trans e2) hp⟩, hv H2 (e.trans e2) _ fun H3 e3 => ⟨p, ns.map V.int, .int v, j, .int v, rfl, rfl, ex_l (((e0.trans e).trans e2).trans e3) hp, rfl, by rw [List.all_map]; exact List.all_eq_true.mpr fun _ _ => rfl, by rw [List.getElem?_map, hj]; rfl, by show (v == v) = true; exact beq_self_eq_true v, fun m z hm hz => by
      rw [List.getElem?_map] at hz
      obtain ⟨w, hw, rfl⟩ := Option.map_eq_some_iff.mp hz
      show (w == v) = false
      exact beq_eq_false_iff_ne.mpr (hno m w hm hw), q H3 (e2.trans e3)⟩⟩
/-- sorted(xs), ints -/
theorem el_sortedP {ns : List Int} (h : EvQ K te σ H (ns.map V.int)) : EvLP (tCB (rSortedI K) (tCons te tNil)) σ H (fun xs => ∃ ms : List Int, ms.Perm ns ∧ ms.Pairwise (· ≤ ·) ∧ xs = ms.map V.int) := fun H1 e Q q =>
  h H1 e _ fun p H2 e2 hp => ⟨p, ns, rfl, hp, fun ms r hpm hs hr => q r _ _ ⟨ms, hpm, hs, rfl⟩ (fresh_back e2 hr) (e2.trans (Ex.new hr)) upd_same⟩
end
/-! ### people found one by one -/
theorem nats_of_perm {S : List Nat} {ms : List Int} (hp : ms.Perm (S.map fun (i : Nat) => (i : Int))) : ∃ ps : List Nat, ms = ps.map (fun (i : Nat) => (i : Int)) ∧ ps.Perm S := by
  refine ⟨ms.map Int.toNat, ?_, ?_⟩
  · rw [List.map_map]
    conv => lhs; rw [← List.map_id ms]
    refine List.map_congr_left fun x hx => ?_
    obtain ⟨i, _, rfl⟩ := List.mem_map.mp (hp.mem_iff.mp hx)
    show (i : Int) = (((i : Int)).toNat : Nat)
    omega
  · have := hp.map Int.toNat
    rw [List.map_map] at this
    refine this.trans (List.Perm.of_eq ?_)
    conv => rhs; rw [← List.map_id S]
    exact List.map_congr_left fun i _ => Int.toNat_natCast i
theorem srt_lt {ps : List Nat} {S : List Nat} (h : ps.Perm S) (nd : S.Nodup) (hs : (ps.map fun (i : Nat) => (i : Int)).Pairwise (· ≤ ·)) : ps.Pairwise (· < ·) := by
  rw [List.pairwise_map] at hs
  have nd2 : ps.Nodup := h.nodup_iff.mpr nd
  have h2 := hs.and nd2
  exact h2.imp fun ⟨a, b⟩ => by omega
end AK
namespace AK
open PySem PySem.Spec PyProof.Rows L2 Evl Ak
section
variable {K : PySem.W.Frag} {σ : St} {H H0 Hw H' : Hp} {ta tb tc te tl : TE} {t : TT} {tz tu tw : TS} {D : Ends}
theorem q_asgT2 {i j : Nat} {x y : V} (h : EvU te σ H [x, y]) (k : ∀ H1, Ex H H1 → tz D ((σ.set i (some x)).set j (some y)) H1) : tSeq (tAsg te (gTup K 2 (gCons (gName i) (gCons (gName j) gNil)))) tz D σ H :=
  h H (Ex.refl H) _ fun T H1 _ e hT => ⟨T, _, rfl, SqT.of hT, rfl, x, [y], rfl, y, [], rfl, rfl, k H1 e⟩
theorem q_asgT2v {i j : Nat} {T : Addr} {x y : V} (h : Ev te σ H (.ref T)) (hT : H0 T = some (.tup [x, y])) (e0 : Ex H0 H) (k : ∀ H1, Ex H H1 → tz D ((σ.set i (some x)).set j (some y)) H1) : tSeq (tAsg te (gTup K 2 (gCons (gName i) (gCons (gName j) gNil)))) tz D σ H :=
  h H (Ex.refl H) _ fun H1 e => ⟨T, _, rfl, SqT.of ((e0.trans e) _ _ hT), rfl, x, [y], rfl, y, [], rfl, rfl, k H1 e⟩
end
end AK

namespace AK
open PySem PySem.Spec PyProof.Rows L2 Evl Ak
/-! ### values told by a property -/
def Kept (P : V → Hp → Prop) : Prop := ∀ v H H', Ex H H' → P v H → P v H'
def EvX (te : TE) (σ : St) (H : Hp) (P : V → Hp → Prop) : Prop := ∀ H1, Ex H H1 → ∀ Q : VK, (∀ v H2, Ex H1 H2 → P v H2 → Q v H2) → te σ H1 Q
def EvAX (ta : TA) (σ : St) (H : Hp) (P : V → Hp → Prop) (m : Nat) : Prop := ∀ H1, Ex H H1 → ∀ Q : List V → Hp → Prop, (∀ vs H2, Ex H1 H2 → vs.length = m → (∀ v ∈ vs, P v H2) → Q vs H2) → ta σ H1 Q
def EvLX (te : TE) (σ : St) (H : Hp) (P : V → Hp → Prop) (m : Nat) : Prop := ∀ H1, Ex H H1 → ∀ Q : VK, (∀ p H2 xs, H1 p = none → Ex H1 H2 → H2 p = some (.lst xs) → xs.length ≤ m → (∀ v ∈ xs, P v H2) → Q (.ref p) H2) → te σ H1 Q
section
variable {K : PySem.W.Frag} {σ : St} {H H0 Hw H' : Hp} {ta tb tc te tl : TE} {t : TT} {tz tu tw : TS} {D : Ends} {xs ys : List V} {P : V → Hp → Prop} {m n : Nat}
theorem evx_of {v : V} (h : Ev te σ H v) (hp : ∀ H1, Ex H H1 → P v H1) : EvX te σ H P := fun H1 e Q q => h H1 e _ fun H2 e2 => q v H2 e2 (hp H2 (e.trans e2))
theorem evx_el (h : EvL te σ H xs) (hp : ∀ p H1, Ex H H1 → H1 p = some (.lst xs) → P (.ref p) H1) : EvX te σ H P := fun H1 e Q q => h H1 e _ fun p H2 _ e2 hp2 => q _ H2 e2 (hp p H2 (e.trans e2) hp2)
theorem evx_elp {R : List V → Prop} (h : EvLP te σ H R) (hp : ∀ p H1 xs, R xs → Ex H H1 → H1 p = some (.lst xs) → P (.ref p) H1) : EvX te σ H P := fun H1 e Q q => h H1 e _ fun p H2 xs hR _ e2 hp2 => q _ H2 e2 (hp p H2 xs hR (e.trans e2) hp2)
theorem eax_nil : EvAX tNil σ H P 0 := fun H1 _ _ q => q [] H1 (Ex.refl _) rfl fun v hv => by cases hv
theorem eax_cons {tr : TA} (kp : Kept P) (h : EvX ta σ H P) (hr : EvAX tr σ H P m) : EvAX (tCons ta tr) σ H P (m + 1) := fun H1 e Q q =>
  h H1 e _ fun v H2 e2 hv => hr H2 (e.trans e2) _ fun vs H3 e3 hl hvs => q (v :: vs) H3 (e2.trans e3) (by simp [hl]) fun u hu => by
    rcases List.mem_cons.mp hu with z | z
    · rw [z]; exact kp _ _ _ e3 hv
    · exact hvs u z
theorem elx_lst {ta : TA} (kp : Kept P) (h : EvAX ta σ H P m) (hm : m ≤ 100000) : EvLX (tLst ta) σ H P m := fun H1 e Q q =>
  h H1 e _ fun vs H2 e2 hl hvs => ⟨sz_of (by omega), fun p hp => q p _ vs (fresh_back e2 hp) (e2.trans (Ex.new hp)) upd_same (by omega) fun v hv => kp _ _ _ (Ex.new hp) (hvs v hv)⟩
theorem elx_cat (kp : Kept P) {p : Addr} (h1 : Ev ta σ H (.ref p)) (hp : H0 p = some (.lst xs)) (e0 : Ex H0 H) (hP : ∀ v ∈ xs, P v H0) (h2 : EvLX tb σ H P m) (hl : xs.length + m ≤ 100000) : EvLX (tOp rCat ta tb) σ H P (xs.length + m) := fun H1 e Q q =>
  h1 H1 e _ fun H2 e2 => h2 H2 (e.trans e2) _ fun r H3 ys _ e3 hr hm hys => ⟨p, r, xs, ys, rfl, rfl, ((e0.trans e).trans (e2.trans e3)) _ _ hp, hr, sz_of (by omega), fun s hs => q s _ (xs ++ ys) (fresh_back (e2.trans e3) hs) ((e2.trans e3).trans (Ex.new hs)) upd_same (by rw [List.length_append]; omega) fun v hv => by
    rcases List.mem_append.mp hv with z | z
    · exact kp _ _ _ (((e0.trans e).trans (e2.trans e3)).trans (Ex.new hs)) (hP v z)
    · exact kp _ _ _ (Ex.new hs) (hys v z)⟩
/-- lists one behind the other -/
theorem el_cat {p : Addr} (h1 : Ev ta σ H (.ref p)) (hp : H0 p = some (.lst xs)) (e0 : Ex H0 H) (h2 : EvL tb σ H ys) (hl : xs.length + ys.length ≤ 100000) : EvL (tOp rCat ta tb) σ H (xs ++ ys) := fun H1 e Q q =>
  h1 H1 e _ fun H2 e2 => h2 H2 (e.trans e2) _ fun r H3 _ e3 hr => ⟨p, r, xs, ys, rfl, rfl, ((e0.trans e).trans (e2.trans e3)) _ _ hp, hr, sz_of hl, fun s hs => q s _ (fresh_back (e2.trans e3) hs) ((e2.trans e3).trans (Ex.new hs)) upd_same⟩
theorem el_catN (h1 : EvL ta σ H xs) (h2 : EvL tb σ H ys) (hl : xs.length + ys.length ≤ 100000) : EvL (tOp rCat ta tb) σ H (xs ++ ys) := fun H1 e Q q =>
  h1 H1 e _ fun p H2 _ e2 hp => h2 H2 (e.trans e2) _ fun r H3 _ e3 hr => ⟨p, r, xs, ys, rfl, rfl, e3 _ _ hp, hr, sz_of hl, fun s hs => q s _ (fresh_back (e2.trans e3) hs) ((e2.trans e3).trans (Ex.new hs)) upd_same⟩
theorem q_asgLX {i : Nat} (h : EvLX te σ H P m) (k : ∀ p H1 xs, H p = none → Ex H H1 → H1 p = some (.lst xs) → xs.length ≤ m → (∀ v ∈ xs, P v H1) → tz D (σ.set i (some (.ref p))) H1) : tSeq (tAsg te (gName i)) tz D σ H := h H (Ex.refl H) _ k
theorem s_asgLX {i : Nat} (h : EvLX te σ H P m) (k : ∀ p H1 xs, H p = none → Ex H H1 → H1 p = some (.lst xs) → xs.length ≤ m → (∀ v ∈ xs, P v H1) → D.nx (σ.set i (some (.ref p))) H1) : tAsg te (gName i) D σ H := h H (Ex.refl H) _ k
/-! ### truth of a word -/
theorem ev_notBl {b c : Bool} (h : Ev ta σ H (.bl b)) : Ev (tOp rNotB ta (tC (.bl c))) σ H (.bl (!decide (b = c))) := fun H1 e Q q =>
  h H1 e _ fun H2 e2 => ⟨b, c, rfl, rfl, q H2 e2⟩
theorem ev_isBl {b c : Bool} (h : Ev ta σ H (.bl b)) : Ev (tOp rIsB ta (tC (.bl c))) σ H (.bl (decide (b = c))) := fun H1 e Q q =>
  h H1 e _ fun H2 e2 => ⟨b, c, rfl, rfl, q H2 e2⟩
/-! ### tuples -/
theorem ev_isTuple {T : Addr} (ha : Ev ta σ H (.ref T)) (h : H0 T = some (.tup xs)) (e : Ex H0 H) : Ev (tCB (rIsi K) (tCons ta (tCons (tC (.ty "tuple")) tNil))) σ H (.bl true) :=
  ev_isi ha ev_c (fun H1 e1 => .base (.tup ((e.trans e1) _ _ h))) (kit_ty (by decide +kernel))
theorem dp_tupI {p : Addr} {ns : List Int} (h : SqT K H p (ns.map V.int)) : Dp K H (.ref p) (.tuple (ns.map PyData.int)) := by
  refine .tup h ?_
  clear h
  induction ns with
  | nil => exact .nil
  | cons n r ih => exact .cons (.int n) ih
theorem shaped_tupI (ns : List Int) : SeqAt.shaped (.tuple (ns.map PyData.int)) = true := by
  unfold SeqAt.shaped
  show (PyData.canLayAll0 (ns.map PyData.int) && decide (PyData.depthAll (ns.map PyData.int) + 1 ≤ 64)) = true
  rw [lay_ints, depth_ints]; rfl
theorem eqv_tupI (ns ms : List Int) : PyData.eqv (.tuple (ns.map PyData.int)) (.tuple (ms.map PyData.int)) = decide (ns = ms) := by
  rw [PyData.eqv]; exact PySem.W.eqvAll_map ns ms
theorem ev_neT {p r : Addr} {ns ms : List Int} (h1 : Ev ta σ H (.ref p)) (hp : H0 p = some (.tup (ns.map V.int))) (h2 : Ev tb σ H (.ref r)) (hr : H0 r = some (.tup (ms.map V.int))) (e0 : Ex H0 H) : Ev (tOp (rNeD K) ta tb) σ H (.bl (!decide (ns = ms))) := fun H1 e Q q =>
  h1 H1 e _ fun H2 e2 => h2 H2 (e.trans e2) _ fun H3 e3 => ⟨_, _, dp_tupI (SqT.of (((e0.trans e).trans (e2.trans e3)) _ _ hp)), dp_tupI (SqT.of (((e0.trans e).trans (e2.trans e3)) _ _ hr)), shaped_tupI ns, shaped_tupI ms, by rw [eqv_tupI]; exact q H3 (e2.trans e3)⟩
theorem ev_eqUU {ns ms : List Int} (h1 : EvU ta σ H (ns.map V.int)) (h2 : EvU tb σ H (ms.map V.int)) : Ev (tOp (rEqD K) ta tb) σ H (.bl (decide (ns = ms))) := fun H1 e Q q =>
  h1 H1 e _ fun p H2 _ e2 hp => h2 H2 (e.trans e2) _ fun r H3 _ e3 hr => ⟨_, _, dp_tupI (SqT.of (e3 _ _ hp)), dp_tupI (SqT.of hr), shaped_tupI ns, shaped_tupI ms, by rw [eqv_tupI]; exact q H3 (e2.trans e3)⟩
theorem ew_tup {a : Addr} (h : Ev tl σ H (.ref a)) (hx : Hw a = some (.tup xs)) (he : Ex Hw H) : EvW (iTup K tl) σ H Hw xs.length (fun i => xs.getD i .non) := fun H1 e R r =>
  h H1 e _ fun H2 e2 => ⟨a, rfl, ⟨xs, SqT.of (((he.trans e).trans e2) _ _ hx)⟩, r _ H2 e2
    ⟨fun i H3 e3 hi => ⟨xs, xs[i], SqT.of (e3 _ _ hx), by simp [hi]⟩, fun H3 e3 => ⟨xs, SqT.of (e3 _ _ hx), Nat.le_refl _⟩, fun i H3 x H4 e3 hi y => ⟨y.1, by
      have q := y.2 xs (SqT.of (e3 _ _ hx))
      rw [List.getD_eq_getElem?_getD, q]; rfl⟩⟩⟩
theorem ev_ixT {T : Addr} {us : List V} {i : Int} {v : V} (ha : Ev ta σ H (.ref T)) (hT : H0 T = some (.tup us)) (e0 : Ex H0 H) (hb : Ev tb σ H (.int i)) (hi : atI us i = some v) : Ev (tOp (rIxT K) ta tb) σ H v :=
  ev_op ha hb fun H1 e1 Q q => rv_ixT (H := H1) (SqT.of ((e0.trans e1) _ _ hT)) hi H1 (Ex.refl _) Q q
end
/-! ### a loop over two new tuples of three, whose body may change things that stand -/
section
variable {K : PySem.W.Frag} {σ : St} {H : Hp} {t1 t2 : TE} {tu tz : TS} {D : Ends} {a1 b1 c1 a2 b2 c2 : V}
theorem q_forT3 {i1 i2 i3 : Nat} (h1 : EvU t1 σ H [a1, b1, c1]) (h2 : EvU t2 σ H [a2, b2, c2]) (Pv : Addr → Addr → Addr → Nat → St → Hp → Prop)
    (h0 : ∀ H1 lp T1 T2, Ex H H1 → H lp = none → H T1 = none → H T2 = none → H1 lp = some (.lst [.ref T1, .ref T2]) → H1 T1 = some (.tup [a1, b1, c1]) → H1 T2 = some (.tup [a2, b2, c2]) → Pv lp T1 T2 0 σ H1)
    (hx : ∀ lp T1 T2 i σ' H', Pv lp T1 T2 i σ' H' → H' lp = some (.lst [.ref T1, .ref T2]) ∧ H' T1 = some (.tup [a1, b1, c1]) ∧ H' T2 = some (.tup [a2, b2, c2]))
    (hs1 : ∀ lp T1 T2 σ' H', Pv lp T1 T2 0 σ' H' → tu { D with nx := Pv lp T1 T2 1, ct := Pv lp T1 T2 1, bk := tz D } (((σ'.set i1 (some a1)).set i2 (some b1)).set i3 (some c1)) H')
    (hs2 : ∀ lp T1 T2 σ' H', Pv lp T1 T2 1 σ' H' → tu { D with nx := Pv lp T1 T2 2, ct := Pv lp T1 T2 2, bk := tz D } (((σ'.set i1 (some a2)).set i2 (some b2)).set i3 (some c2)) H')
    (hd : ∀ lp T1 T2 σ' H', Pv lp T1 T2 2 σ' H' → tz D σ' H') :
    tSeq (tFor (iList K (tLst (tCons t1 (tCons t2 tNil)))) (gTup K 3 (gCons (gName i1) (gCons (gName i2) (gCons (gName i3) gNil)))) tu) tz D σ H :=
  h1 H (Ex.refl H) _ fun T1 H1 n1 e1 hT1 => h2 H1 e1 _ fun T2 H2 n2 e2 hT2 => ⟨sz_of (by simp), fun lp hlp => ⟨lp, rfl, ⟨_, SqL.of upd_same⟩, fun i m σ' H' => m = 2 - i ∧ i ≤ 2 ∧ Pv lp T1 T2 i σ' H', ⟨2, rfl, Nat.zero_le _, h0 _ lp T1 T2 ((e1.trans e2).trans (Ex.new hlp)) (fresh_back (e1.trans e2) hlp) n1 (fresh_back e1 n2) upd_same ((e2.trans (Ex.new hlp)) _ _ hT1) ((Ex.new hlp) _ _ hT2)⟩, by
    rintro i m σ' H' ⟨rfl, hi, p⟩
    obtain ⟨x1, x2, x3⟩ := hx lp T1 T2 i σ' H' p
    by_cases hlt : i < 2
    · refine .inr ⟨⟨_, [V.ref T1, V.ref T2][i], SqL.of x1, by rw [List.getElem?_eq_getElem]⟩, Pv lp T1 T2 (i + 1), fun σ2 H3 p' => ⟨2 - (i + 1), by omega, rfl, hlt, p'⟩, fun y H3 yy => ?_⟩
      obtain ⟨e, yy⟩ := yy
      subst e
      have q := yy _ (SqL.of x1)
      have : i = 0 ∨ i = 1 := by omega
      rcases this with c | c
      · subst c
        have ey : V.ref T1 = y := Option.some.inj q
        subst ey
        exact ⟨T1, _, rfl, SqT.of x2, rfl, a1, [b1, c1], rfl, b1, [c1], rfl, c1, [], rfl, rfl, hs1 lp T1 T2 σ' _ p⟩
      · subst c
        have ey : V.ref T2 = y := Option.some.inj q
        subst ey
        exact ⟨T2, _, rfl, SqT.of x3, rfl, a2, [b2, c2], rfl, b2, [c2], rfl, c2, [], rfl, rfl, hs2 lp T1 T2 σ' _ p⟩
    · have e : i = 2 := by omega
      subst e
      exact .inl ⟨⟨_, SqL.of x1, Nat.le_refl _⟩, hd lp T1 T2 σ' H' p⟩⟩⟩
end
end AK
namespace AK
open PySem PySem.Spec PyProof.Rows L2 Evl Ak
section
variable {K : PySem.W.Frag} {σ : St} {H H0 : Hp} {ta te : TE} {xs ys ns : List V} {x C : Addr} {P : List V → Prop}
theorem eu_hcL {sp : Sp} {E : XK} (h : EvL te σ H xs) (hs : ∀ p H1, H1 p = some (.lst xs) → Ex H H1 → SpU sp [.ref p] H1 ys) : EvU (tCall sp [] E (tCons te tNil)) σ H ys := fun H1 e Q q =>
  h H1 e _ fun p H2 _ e2 hp => hs p H2 hp (e.trans e2) H2 (Ex.refl _) Q (fun r H3 hr e3 h3 => q r H3 (fresh_back e2 hr) (e2.trans e3) h3) E
/-- a method of a new answer that is one of many -/
theorem emp_call {sp : Sp} {E : XK} {t : TA} {vs : List V} (h : EvA t σ H vs) (hs : ∀ H1, Ex H H1 → ∀ Q : VK, (∀ x H2 xs, P xs → Ex H1 H2 → AnsNew H1 H2 x C xs → Q (.ref x) H2) → ∀ E : XK, sp vs H1 Q E) : EvMP (tCall sp [] E t) σ H C P := fun H1 e Q q =>
  h H1 e _ fun H2 e2 => by
    rw [List.append_nil]
    exact hs H2 (e.trans e2) Q (fun x H3 xs hP e3 hA => q x H3 xs hP (e2.trans e3) (hA.low e2)) _
theorem emp_callL {sp : Sp} {E : XK} (h : EvL te σ H ys) (hs : ∀ p H1, Ex H H1 → H1 p = some (.lst ys) → ∀ Q : VK, (∀ x H2 xs, P xs → Ex H1 H2 → AnsNew H1 H2 x C xs → Q (.ref x) H2) → ∀ E : XK, sp [.ref p] H1 Q E) : EvMP (tCall sp [] E (tCons te tNil)) σ H C P := fun H1 e Q q =>
  h H1 e _ fun p H2 _ e2 hp => hs p H2 (e.trans e2) hp Q (fun x H3 xs hP e3 hA => q x H3 xs hP (e2.trans e3) (hA.low e2)) _
/-- answer.people where the answer's one list is known -/
theorem eq_fldP (h : EvMP te σ H C (fun xs => xs = ns)) (hC : OwnC K C) : EvQ K (tFld K te "people") σ H ns := fun H1 e Q q =>
  h H1 e _ fun x H2 xs hP e2 hA => by
    subst hP
    obtain ⟨dx, l, h1, h2⟩ := hA.at
    exact ⟨x, C, dx, _, _, rfl, h1, hC.cl, hC.na, people_get l, q l H2 e2 (SqL.of h2)⟩
end
end AK

namespace AK
open PySem PySem.Spec PyProof.Rows L2 Evl Ak
section
variable {K : PySem.W.Frag} {σ : St} {H H0 : Hp} {ta tb te : TE} {t : TT} {xs ys ns : List V} {x C : Addr} {P : List V → Prop} {tz tu : TS} {D : Ends}
theorem em_makeN (h : EvQ K te σ H ns) : EvMP (tMake C (spAns K C) [] E0 (tCons te tNil)) σ H C (fun xs => xs = ns) := fun H1 e Q q =>
  h H1 e _ fun p H2 e2 hp x dx hx hdx ne => by
    have e3 : Ex H2 (upd (upd H2 dx (.own x)) x (.ins C dx [])) := fun a o ha => by
      have h1 : a ≠ x := fun z => by rw [z, hx] at ha; cases ha
      have h2 : a ≠ dx := fun z => by rw [z, hdx] at ha; cases ha
      rw [upd_ne h1, upd_ne h2]; exact ha
    refine ⟨x, dx, p, ns, rfl, upd_same, ex_l e3 hp, fun l hl => ⟨rfl, ?_⟩⟩
    have nlx : l ≠ x := fun z => by rw [z, upd_same] at hl; cases hl
    have e4 : Ex H2 (upd (upd (upd (upd H2 dx (.own x)) x (.ins C dx [])) l (.lst ns)) x (.ins C dx (putF "people" (.ref l) []))) := Ex.mut (e3.trans (Ex.new hl)) hx
    have hl2 : H2 l = none := by
      by_cases c : l = dx
      · rw [c]; exact hdx
      · rw [upd_ne nlx, upd_ne c] at hl; exact hl
    exact q x _ ns rfl (e2.trans e4) ⟨dx, l, fresh_back e2 hx, fresh_back e2 hl2, nlx.symm, upd_same, by rw [upd_ne nlx, upd_same]⟩
theorem emp_if {b : Bool} (h : EvT t σ H b) (h1 : b = true → EvMP ta σ H C P) (h2 : b = false → EvMP tb σ H C P) : EvMP (tIf t ta tb) σ H C P := fun H1 e Q q => h H1 e _ fun H2 e2 => by
  cases b with
  | true =>
    show ta σ H2 Q
    exact h1 rfl H2 (e.trans e2) Q fun x H3 xs hP e3 hA => q x H3 xs hP (e2.trans e3) (hA.low e2)
  | false =>
    show tb σ H2 Q
    exact h2 rfl H2 (e.trans e2) Q fun x H3 xs hP e3 hA => q x H3 xs hP (e2.trans e3) (hA.low e2)
theorem q_asgMP {i : Nat} (h : EvMP te σ H C P) (k : ∀ x H1 xs, P xs → Ex H H1 → AnsNew H H1 x C xs → tz D (σ.set i (some (.ref x))) H1) : tSeq (tAsg te (gName i)) tz D σ H := h H (Ex.refl H) _ k
/-- a name for the people of a new answer -/
theorem q_asgFldP {i : Nat} (h : EvMP te σ H C P) (hC : OwnC K C) (k : ∀ l H1 xs, P xs → Ex H H1 → H l = none → H1 l = some (.lst xs) → tz D (σ.set i (some (.ref l))) H1) : tSeq (tAsg (tFld K te "people") (gName i)) tz D σ H :=
  h H (Ex.refl H) _ fun x H1 xs hP e hA => by
    obtain ⟨dx, l, xn, ln, ne, h1, h2⟩ := hA
    exact ⟨x, C, dx, _, _, rfl, h1, hC.cl, hC.na, people_get l, k l H1 xs hP e ln h2⟩
theorem ev_methPL {m : Str} {sp : Sp} {v : V} (h : EvMP te σ H C P) (hm : ¬ m = "people") (ha : EvL ta σ H ys) (hs : ∀ x H1 xs p, P xs → Ex H H1 → AnsAt H1 x C xs → H1 p = some (.lst ys) → SpV sp [.ref x, .ref p] H1 v) : Ev (tMeth C m sp [] E0 te (tCons ta tNil)) σ H v := fun H1 e Q q =>
  h H1 e _ fun x H2 xs hP e2 hA0 => by
    have hA := hA0.at
    obtain ⟨dx, l, h1, h2⟩ := id hA
    exact ⟨x, dx, _, rfl, h1, people_no l hm, ha H2 (e.trans e2) _ fun p H3 hp0 e3 hp => by
      show sp (V.ref x :: ([V.ref p] ++ [])) H3 Q E0
      rw [List.append_nil]
      exact hs x H3 xs p hP ((e.trans e2).trans e3) (hA.ex e3) hp H3 (Ex.refl _) Q (fun H4 e4 => q H4 ((e2.trans e3).trans e4)) _⟩
/-! ### lists of ints at hand -/
def IL (v : V) (H : Hp) : Prop := ∃ (p : Addr) (ns : List Int), v = .ref p ∧ H p = some (.lst (ns.map V.int)) ∧ ns.length ≤ 300
theorem il_kept : Kept IL := fun v H H' e ⟨p, ns, h1, h2, h3⟩ => ⟨p, ns, h1, e _ _ h2, h3⟩
theorem cut_ints (ns : List Int) (lo hi : Option Int) : ∃ ms : List Int, cutV (ns.map V.int) lo hi = ms.map V.int ∧ ms.length ≤ ns.length := by
  unfold cutV
  rw [← List.map_drop, ← List.map_take]
  exact ⟨_, rfl, by rw [List.length_take, List.length_drop]; omega⟩
theorem evx_ints {ms : List Int} (h : EvL te σ H (ms.map V.int)) (hl : ms.length ≤ 300) : EvX te σ H IL := evx_el h fun p H1 _ hp => ⟨p, ms, rfl, hp, hl⟩
theorem evx_sorted {ms : List Int} (h : EvL te σ H (ms.map V.int)) (hl : ms.length ≤ 300) : EvX (tCB (rSortedI K) (tCons te tNil)) σ H IL :=
  evx_elp (el_sortedP (EvQ.of_el h)) fun p H1 xs ⟨ms', hp, _, e⟩ _ hr => ⟨p, ms', rfl, by rw [hr, e], by rw [hp.length_eq]; exact hl⟩
end
end AK

namespace Ak
/-! how many are enough: sums of lesser ones -/
def ramS (f : Nat → Nat) : Nat → Nat
  | 0 => 1
  | b + 1 => f (b + 1) + ramS f b
def ram : Nat → Nat → Nat
  | 0 => fun _ => 1
  | a + 1 => ramS (ram a)
theorem ram_zero (b : Nat) : ram 0 b = 1 := rfl
theorem ram_b0 (a : Nat) : ram a 0 = 1 := by cases a <;> rfl
theorem ram_succ (a b : Nat) : ram (a + 1) (b + 1) = ram a (b + 1) + ram (a + 1) b := rfl
theorem ram_pos : ∀ a b, 0 < ram a b
  | 0, b => by rw [ram_zero]; decide
  | a + 1, 0 => by rw [ram_b0]; decide
  | a + 1, b + 1 => by rw [ram_succ]; have := ram_pos a (b + 1); omega
theorem ram_comm : ∀ a b, ram a b = ram b a
  | 0, b => by rw [ram_zero, ram_b0]
  | a + 1, 0 => by rw [ram_zero, ram_b0]
  | a + 1, b + 1 => by rw [ram_succ, ram_succ, ram_comm a (b + 1), ram_comm (a + 1) b]; omega
theorem ram_one (b : Nat) : ram 1 b = b + 1 := by
  induction b with
  | zero => rfl
  | succ b ih => rw [ram_succ, ih, ram_zero]; omega
theorem ram_mul : ∀ s a b, a + b = s → (a + 1) * ram (a + 1) b = (a + b + 1) * ram a b := by
  intro s
  induction s with
  | zero =>
    intro a b h
    have h1 : a = 0 := by omega
    have h2 : b = 0 := by omega
    subst h1 h2; rfl
  | succ s ih =>
    intro a b h
    cases b with
    | zero => rw [ram_b0, ram_b0]
    | succ b =>
      cases a with
      | zero => rw [ram_one, ram_zero]; omega
      | succ a =>
        have h1 := ih (a + 1) b (by omega)
        have h2 := ih b (a + 1) (by omega)
        rw [ram_comm (b + 1) (a + 1), ram_comm b (a + 1)] at h2
        rw [ram_succ (a + 1) b]
        generalize ram (a + 1) (b + 1) = x at *
        generalize ram (a + 1 + 1) b = y at *
        generalize ram (a + 1) b = z at *
        grind
/-- each two the same -/
def Cl (k : Rel) (c : Bool) (X : List Nat) : Prop := ∀ u ∈ X, ∀ v ∈ X, u ≠ v → k u v = c
structure FInv (n : Nat) (k : Rel) (a b : Nat) (L F S : List Nat) : Prop where
  nd : L.Nodup
  lt : ∀ u ∈ L, u < n
  ndF : F.Nodup
  ltF : ∀ u ∈ F, u < n
  cF : Cl k true F
  ndS : S.Nodup
  ltS : ∀ u ∈ S, u < n
  cS : Cl k false S
  fL : ∀ u ∈ L, ∀ v ∈ F, u ≠ v ∧ k v u = true
  sL : ∀ u ∈ L, ∀ v ∈ S, u ≠ v ∧ k v u = false
  fle : F.length ≤ a
  sle : S.length ≤ b
  big : ram (a - F.length) (b - S.length) ≤ L.length
theorem FInv.start {n : Nat} {k : Rel} {a b : Nat} (h : ram a b ≤ n) : FInv n k a b (List.range n) [] [] :=
  ⟨List.nodup_range, fun u h => List.mem_range.mp h, List.nodup_nil, fun _ h => by simp at h, fun _ h => by simp at h, List.nodup_nil, fun _ h => by simp at h, fun _ h => by simp at h, fun _ _ _ h => by simp at h, fun _ _ _ h => by simp at h, Nat.zero_le _, Nat.zero_le _, by simpa using h⟩
theorem cl_add {n : Nat} {k : Rel} {c : Bool} {X : List Nat} {one : Nat} (hk : IsW n k) (hc : Cl k c X) (hl : ∀ u ∈ X, u < n) (h1 : one < n) (h : ∀ v ∈ X, one ≠ v ∧ k v one = c) : Cl k c (X ++ [one]) := by
  intro u hu v hv ne
  rcases List.mem_append.mp hu with z | z
  · rcases List.mem_append.mp hv with y | y
    · exact hc u z v y ne
    · rw [List.mem_singleton.mp y]; exact (h u z).2
  · rw [List.mem_singleton.mp z]
    rcases List.mem_append.mp hv with y | y
    · rw [hk.sym one v h1 (hl v y)]; exact (h v y).2
    · exact absurd ((List.mem_singleton.mp z).trans (List.mem_singleton.mp y).symm) ne
theorem nd_add {X : List Nat} {one : Nat} (h : X.Nodup) (h2 : ∀ v ∈ X, one ≠ v) : (X ++ [one]).Nodup := by
  rw [List.nodup_append]
  exact ⟨h, by simp, fun a ha b hb => by
    have : b = one := by simpa using hb
    subst this
    exact fun z => h2 a ha z.symm⟩
theorem FInv.known {n : Nat} {k : Rel} {a b : Nat} {L F S : List Nat} {one : Nat} (hk : IsW n k) (h : FInv n k a b L F S) (h1 : one ∈ L) (hf : F.length < a) (hb : ram (a - F.length - 1) (b - S.length) ≤ (L.filter (k one)).length) :
    FInv n k a b (L.filter (k one)) (F ++ [one]) S := by
  have hone := h.lt one h1
  refine ⟨h.nd.filter _, fun u hu => h.lt u (List.mem_filter.mp hu).1, nd_add h.ndF fun v hv => (h.fL one h1 v hv).1, ?_, cl_add hk h.cF h.ltF hone (h.fL one h1), h.ndS, h.ltS, h.cS, ?_, fun u hu v hv => h.sL u (List.mem_filter.mp hu).1 v hv, ?_, h.sle, ?_⟩
  · intro u hu
    rcases List.mem_append.mp hu with z | z
    · exact h.ltF u z
    · rw [List.mem_singleton.mp z]; exact hone
  · intro u hu v hv
    obtain ⟨u1, u2⟩ := List.mem_filter.mp hu
    rcases List.mem_append.mp hv with z | z
    · exact h.fL u u1 v z
    · rw [List.mem_singleton.mp z]
      refine ⟨fun e => ?_, u2⟩
      rw [e, hk.irr one hone] at u2
      cases u2
  · rw [List.length_append]; show F.length + 1 ≤ a; omega
  · rw [List.length_append]
    show ram (a - (F.length + 1)) _ ≤ _
    rw [show a - (F.length + 1) = a - F.length - 1 by omega]; exact hb
theorem filt_part (p : Nat → Bool) (l : List Nat) : (l.filter p).length + (l.filter fun o => !p o).length = l.length := by
  induction l with
  | nil => rfl
  | cons x r ih =>
    cases h : p x with
    | true => rw [List.filter_cons_of_pos h, List.filter_cons_of_neg (by simp [h])]; simp; omega
    | false => rw [List.filter_cons_of_neg (by simp [h]), List.filter_cons_of_pos (by simp [h])]; simp; omega
theorem FInv.unknown {n : Nat} {k : Rel} {a b : Nat} {L F S : List Nat} {one : Nat} (hk : IsW n k) (h : FInv n k a b (one :: L) F S) (hf : F.length < a) (hs : S.length < b) (hb : ((one :: L).filter (k one)).length < ram (a - F.length - 1) (b - S.length)) :
    FInv n k a b (L.filter fun o => !k one o) F (S ++ [one]) := by
  have h1 : one ∈ one :: L := List.mem_cons_self ..
  have hone := h.lt one h1
  have nd := List.nodup_cons.mp h.nd
  have m : ∀ u, u ∈ L.filter (fun o => !k one o) → u ∈ one :: L := fun u hu => List.mem_cons_of_mem _ (List.mem_filter.mp hu).1
  refine ⟨nd.2.filter _, fun u hu => h.lt u (m u hu), h.ndF, h.ltF, h.cF, nd_add h.ndS fun v hv => (h.sL one h1 v hv).1, ?_, cl_add hk h.cS h.ltS hone (h.sL one h1), fun u hu v hv => h.fL u (m u hu) v hv, ?_, h.fle, ?_, ?_⟩
  · intro u hu
    rcases List.mem_append.mp hu with z | z
    · exact h.ltS u z
    · rw [List.mem_singleton.mp z]; exact hone
  · intro u hu v hv
    obtain ⟨u1, u2⟩ := List.mem_filter.mp hu
    rcases List.mem_append.mp hv with z | z
    · exact h.sL u (m u hu) v z
    · rw [List.mem_singleton.mp z]
      refine ⟨fun e => nd.1 (e ▸ u1), by simpa using u2⟩
  · rw [List.length_append]; show S.length + 1 ≤ b; omega
  · rw [List.length_append]
    show ram _ (b - (S.length + 1)) ≤ _
    have e0 : (one :: L).filter (k one) = L.filter (k one) := List.filter_cons_of_neg (by rw [hk.irr one hone]; decide)
    rw [e0] at hb
    have h2 := filt_part (k one) L
    have h3 := h.big
    rw [List.length_cons] at h3
    obtain ⟨x, hx⟩ : ∃ x, a - F.length = x + 1 := ⟨a - F.length - 1, by omega⟩
    obtain ⟨y, hy⟩ : ∃ y, b - S.length = y + 1 := ⟨b - S.length - 1, by omega⟩
    have e1 : a - F.length - 1 = x := by omega
    have e2 : b - (S.length + 1) = y := by omega
    rw [e1, hy] at hb
    rw [hx, hy, ram_succ] at h3
    rw [hx, e2]
    omega
/-- so many of one kind -/
structure GoodF (n : Nat) (k : Rel) (c : Bool) (m : Nat) (ps : List Nat) : Prop where
  srt : ps.Pairwise (· < ·)
  lt : ∀ i ∈ ps, i < n
  cl : Cl k c ps
  len : ps.length = m
end Ak
namespace AK
open PySem PySem.Spec PyProof.Rows L2 Evl Ak
theorem goodF_of {n : Nat} {k : Rel} {c : Bool} {X L : List Nat} {ms : List Int} (hk : IsW n k) (ndX : X.Nodup) (ltX : ∀ u ∈ X, u < n) (cX : Cl k c X) (ltL : ∀ u ∈ L, u < n) (hL : ∀ u ∈ L, ∀ v ∈ X, u ≠ v ∧ k v u = c) (h1 : 1 ≤ L.length)
    (hp : ms.Perm ((X ++ L.take 1).map fun (i : Nat) => (i : Int))) (hs : ms.Pairwise (· ≤ ·)) : ∃ ps, ms = ps.map (fun (i : Nat) => (i : Int)) ∧ GoodF n k c (X.length + 1) ps := by
  match L, h1 with
  | one :: L', _ =>
    have hm : one ∈ one :: L' := List.mem_cons_self ..
    have e : (one :: L').take 1 = [one] := by simp
    rw [e] at hp
    obtain ⟨ps, rfl, hp2⟩ := nats_of_perm hp
    have nd := nd_add ndX fun v hv => (hL one hm v hv).1
    have cl := cl_add hk cX ltX (ltL one hm) (hL one hm)
    refine ⟨ps, rfl, srt_lt hp2 nd hs, fun i hi => ?_, fun u hu v hv ne => cl u (hp2.mem_iff.mp hu) v (hp2.mem_iff.mp hv) ne, by rw [hp2.length_eq]; simp⟩
    rcases List.mem_append.mp (hp2.mem_iff.mp hi) with z | z
    · exact ltX i z
    · rw [List.mem_singleton.mp z]; exact ltL one hm
theorem _root_.Ak.GoodF.all {n : Nat} {k : Rel} {c : Bool} {m : Nat} {ps : List Nat} (h : GoodF n k c m ps) : allAs k c ps = true := by
  rw [allAs_iff]
  intro i hi j hj
  refine h.cl _ (getD_mem hi) _ (getD_mem (by omega)) ?_
  have := List.pairwise_iff_getElem.mp h.srt j i (by omega) hi hj
  rw [List.getD_eq_getElem?_getD, List.getD_eq_getElem?_getD, List.getElem?_eq_getElem hi, List.getElem?_eq_getElem (show j < ps.length by omega)]
  show ps[i] ≠ ps[j]
  omega
theorem _root_.Ak.GoodF.are {n : Nat} {k : Rel} {c : Bool} {m : Nat} {ps : List Nat} (h : GoodF n k c m ps) : areP n (ps.map fun (i : Nat) => (i : Int)) = true := by
  unfold areP
  rw [rises_iff]
  refine ⟨List.pairwise_map.mpr (h.srt.imp fun h => by omega), fun x hx => ?_⟩
  obtain ⟨i, hi, rfl⟩ := List.mem_map.mp hx
  have := h.lt i hi
  omega
end AK

namespace AK
open PySem PySem.Spec PyProof.Rows L2 Evl Ak
/-! ### own errors -/
/-- what the top has written of an error's class -/
structure ErrC (K : PySem.W.Frag) (C : Addr) : Prop where
  x : PySem.W.excIn K C [.type "ValueError", .type "Exception", .type "BaseException", .type "object"] "ValueError.__new__" = true
  k : PySem.W.keepIn K (.ref C) = true
  b : PySem.W.subIn K (.ref C) (.type "BaseException") = some true
  t : PySem.W.typeIn K (.ref C) = some (.type "type")
  i : PySem.W.isClsIn K C = true
  e : ExcC K C
theorem exm_own {K : PySem.W.Frag} {S R : Addr} {v : Bool} (h1 : PySem.W.subIn K (.ref S) (.type "BaseException") = some true) (h2 : PySem.W.isClsIn K S = true) (h3 : PySem.W.typeIn K (.ref S) = some (.type "type")) (h4 : PySem.W.subIn K (.ref R) (.ref S) = some v) :
    PySem.W.exmOne K (.ref R) (.ref S) = some v := by
  have e1 : (PySem.W.subIn K (.ref S) (.type "BaseException") == some true) = true := by rw [h1] <;> rfl
  have e2 : ((PySem.W.clsIn K S).isSome && PySem.W.typeIn K (.ref S) == some (.type "type")) = true := by
    have h2' : (PySem.W.clsIn K S).isSome = true := h2
    rw [h2', h3] <;> rfl
  show (if (PySem.W.subIn K (.ref S) (.type "BaseException") == some true) = true then (if ((PySem.W.clsIn K S).isSome && PySem.W.typeIn K (.ref S) == some (.type "type")) = true then PySem.W.subIn K (.ref R) (.ref S) else none) else none) = some v
  rw [if_pos e1, if_pos e2]
  exact h4
section
variable {P : Program} {w : World} {K : PySem.W.Frag} {mg : Str → Option Value} {base : Heap}
/-- .. for a def that may raise -/
theorem hasX_of {x : Str} {st : Stmt} {N ps : List Str} {k : Nat} {sp : Sp} (D : At K mg x st ps) (S : FnScope N ps (defScope st)) (len : ∀ vs H Q E, sp vs H Q E → vs.length = ps.length)
    (hbody : ∀ (f : Addr) (cdv : Value) (A : Around) (outer : List Env) (s : Shared) (H : Hp) (vs : List V) (Q : VK) (E : XK), Room k (A.deeper (envOfC x (defScope st) s.heap.objs.size f cdv)) → sp vs H Q E →
      ∃ t, PSs (cxOf (L2.CX P w) P w K mg base N x (defScope st) f cdv A outer s H E) (defBody st) t ∧ t { nx := fun _ H' => Q .non H', rt := Q } (start N vs) H) : Has P w K mg base (L2.CX P w) (k + 1) x ps sp := by
  obtain ⟨f, fd, F, m, b⟩ := D
  exact ⟨f, fd, m, F.kp, b, F.okX S len (hbody f)⟩
end
/-- a call of a def that may raise, where it doesn't -/
theorem hcallL {X : Cx} {x : Str} {ps : List Str} {sp : Sp} {k : Nat} {p pos : Pos} {e : Expr} {es : List Expr} {t : TA} (h : Has X.prog X.w X.K X.mg X.base (L2.CX X.prog X.w) k x ps sp) (hr : Room k X.A) (ha : PA X (e :: es) t) (hg : Gl X x := by rfl) (hd : (x == ("__debug__" : Str)) = false := by decide)
    (hs : starEach (e :: es) X.env = (false, eval e X.env) :: starEach es X.env := by rfl) (hpl : (backTo pos (starEach es X.env)).any (·.1) = false := by rfl) :
    PE X (.Call (.Name x p) (e :: es) [] pos) (tCall sp [] E0 t) := by
  obtain ⟨f, fd, m, kp, b, G⟩ := h
  exact pe_call G hr hg m kp b .nil passL ha hd hs hpl
/-- .. in a try's body -/
theorem hcallS {X : Cx} {x : Str} {ps : List Str} {sp : Sp} {k : Nat} {p pos : Pos} {e : Expr} {es : List Expr} {t : TA} {W : WX} (tk : Takes X W) (h : Has X.prog X.w X.K X.mg X.base (L2.CX X.prog X.w) k x ps sp) (hr : Room k X.A) (ha : PA X (e :: es) t) (hg : Gl X x := by rfl) (hd : (x == ("__debug__" : Str)) = false := by decide)
    (hs : starEach (e :: es) X.env = (false, eval e X.env) :: starEach es X.env := by rfl) (hpl : (backTo pos (starEach es X.env)).any (·.1) = false := by rfl) :
    PE X (.Call (.Name x p) (e :: es) [] pos) (tCallS sp (WE W) t) := by
  obtain ⟨f, fd, m, kp, b, G⟩ := h
  exact pe_callS G hr hg m kp b (fun σ => passAt tk σ) ha hd hs hpl
/-- a reading that knows the error's class -/
def sKnow (cls : Value) (d : Option Addr) (C : Addr) (t : TS) : TS := fun D σ H => cls = .ref C ∧ d = none ∧ t D σ H
theorem pss_know {X : Cx} {b : List Stmt} {cls : Value} {d : Option Addr} {C : Addr} {t : TS} (h : cls = .ref C → d = none → PSs X b t) : PSs X b (sKnow cls d C t) :=
  ⟨fun pins s σ H D I ⟨h1, h2, h3⟩ => (h h1 h2).run pins s σ H D I h3⟩
/-- isinstance(e, (c1, c2)), e the error that the suite holds -/
def rIsTE (K : PySem.W.Frag) (D a : Addr) : List V → Hp → VK → Prop := fun xs H Q => ∃ (tp : Addr) (cs : List V) (us : List Value) (b : Bool), xs = [.ref a, .ref tp] ∧ H tp = some (.tup cs) ∧ Paired ClsV cs us ∧ PySem.W.kitAny K (.ref D) us = some b ∧ Q (.bl b) H
theorem call_isTE {X : Cx} {a D : Addr} {oe : Obj} {pn : List (Addr × Obj)} (C : ExcC X.K D) (hz : Zc (.ref D) none oe) (hf : ∃ vs, oe.data = .fields vs) : CallR (X.suite a ((a, oe) :: pn)) (.builtin "isinstance") (rIsTE X.K D a) := by
  intro pins s σ H xs us Q I r h
  obtain ⟨tp, cs, ws, b, rfl, hT, k, e, q⟩ := h
  obtain ⟨u1, u2, rfl, rx, rt⟩ := vals2 r
  cases rx
  cases (show u2 = Value.ref tp from rt)
  obtain ⟨hget, _⟩ := I.pin (a, oe) (List.mem_append.mpr (.inl List.mem_cons_self))
  obtain ⟨vs, hv⟩ := hf
  have J : PySem.W.InstAt s.heap a oe D none := by
    obtain ⟨oc, od, oda, osl⟩ := oe
    obtain ⟨h1, h2⟩ := hz
    dsimp only at h1 h2 hv
    subst h1 h2 hv
    exact ⟨hget, rfl, rfl, trivial⟩
  obtain ⟨_, its, rv, o, h1, h2, n, h3⟩ := (show ObjOk X.prog X.w H s.heap tp (.tup cs) from I.hok tp _ hT)
  have e3 := ClsV.all k rv
  subst e3
  obtain ⟨oc, od, dt, sl⟩ := o
  simp only at h2 h3
  subst h2 h3
  exact PySem.W.kia_tup (PySem.W.handS_kitx_exc C.hg C.hk C.hs C.hd C.ha C.hn C.ht C.hm) I.kIn J h1 e (fun z => nomatch z) fun tk => ⟨.bl b, H, I.kept (t' := tk) fun _ _ z => z, rfl, q⟩
theorem zc_of {cls : Value} {d : Option Addr} {C : Addr} {oe : Obj} (h1 : cls = .ref C) (h2 : d = none) (h : Zc cls d oe) : Zc (.ref C) none oe := by rw [← h1, ← h2]; exact h
section
variable {K : PySem.W.Frag} {σ : St} {H H0 : Hp} {ta tb te : TE} {a D C : Addr} {xs : List V} {tz : TS} {Dd : Ends}
theorem ev_isE {b : Bool} (ha : Ev ta σ H (.ref a)) (hc : Ev tb σ H (.ref C)) (hk : PySem.W.kitOne K (.ref D) (.ref C) = some b) : Ev (tCB (rIsE K D a) (tCons ta (tCons tb tNil))) σ H (.bl b) := fun H1 e Q q =>
  ha H1 e _ fun H2 e2 => hc H2 (e.trans e2) _ fun H3 e3 => ⟨.ref C, .ref C, b, rfl, fun u r => r, hk, q H3 (e2.trans e3)⟩
theorem ev_isTE {cs : List V} {us : List Value} {b : Bool} (ha : Ev ta σ H (.ref a)) (hc : EvU tb σ H cs) (hp : Paired ClsV cs us) (hk : PySem.W.kitAny K (.ref D) us = some b) : Ev (tCB (rIsTE K D a) (tCons ta (tCons tb tNil))) σ H (.bl b) := fun H1 e Q q =>
  ha H1 e _ fun H2 e2 => hc H2 (e.trans e2) _ fun p H3 _ e3 hp3 => ⟨p, cs, us, b, rfl, hp3, hp, hk, q H3 (e2.trans e3)⟩
end
theorem kitAny2 {K : PySem.W.Frag} {D A B : Addr} (h1 : PySem.W.kitOne K (.ref D) (.ref A) = some false) (h2 : PySem.W.kitOne K (.ref D) (.ref B) = some false) : PySem.W.kitAny K (.ref D) [.ref A, .ref B] = some false := by
  unfold PySem.W.kitAny
  rw [h1]
  show (match PySem.W.kitOne K (.ref D) (.ref B) with | some true => some true | some false => PySem.W.kitAny K (.ref D) [] | none => none) = some false
  rw [h2]; rfl
/-! ### one sign many times -/
def rRepS1 : R2 := fun x y H Q => ∃ (c n : Nat), x = .str ⟨#[c]⟩ ∧ y = .int (n : Nat) ∧ n ≤ 1000 ∧ Q (.str ⟨(List.replicate n c).toArray⟩) H
theorem foldl_one (c : Nat) : ∀ (n : Nat) (acc : List Nat), (List.replicate n (#[c] : Array Nat)).foldl (· ++ ·) acc.toArray = (acc ++ List.replicate n c).toArray
  | 0, acc => by simp
  | n + 1, acc => by
    rw [List.replicate_succ, List.foldl_cons]
    have : acc.toArray ++ #[c] = (acc ++ [c]).toArray := by simp
    rw [this, foldl_one c n (acc ++ [c]), List.replicate_succ]
    simp
theorem op_repS {X : Cx} : OpR X (binaryOp .Mult) rRepS1 := by
  intro pins s σ H x y v u Q I rx ry h
  obtain ⟨c, n, rfl, rfl, hn, q⟩ := h
  obtain ⟨t, rfl⟩ := rx
  obtain ⟨t', rfl⟩ := ry
  have hl : (⟨#[c]⟩ : Str).length = 1 := rfl
  refine PySem.P.mul_str ?_ ?_ ?_ ?_
  · rw [decide_eq_false (show ¬ (n : Int) < -(2 ^ 63 : Int) by omega), decide_eq_false (show ¬ (n : Int) ≥ 2 ^ 63 by omega)]; rfl
  · intro h1 _ h3
    rw [hl] at h3
    have h4 : (n : Int) * 1 ≤ 2 ^ 63 - 1 := by omega
    have : (1 : Int) ≤ (2 ^ 63 - 1) / (n : Int) := by
      rw [Int.le_ediv_iff_mul_le (by omega)]
      omega
    omega
  · intro _ _
    rw [hl, Nat.one_mul]
    have : ((n : Int)).toNat ≤ 1000 := by omega
    exact decide_eq_false (Nat.not_lt.mpr (sz_of (by omega)))
  · by_cases h0 : (n : Int) < 1
    · rw [if_pos h0]
      have : n = 0 := by omega
      subst this
      exact ⟨by decide, .str Str.empty, H, I.tok _, ⟨_, rfl⟩, q⟩
    · rw [if_neg h0]
      by_cases h1 : ((n : Int) == 1 || (⟨#[c]⟩ : Str).length == 0) = true
      · rw [if_pos h1]
        have : n = 1 := by
          rw [hl] at h1
          simp at h1
          omega
        subst this
        exact ⟨.str ⟨#[c]⟩, H, I, ⟨t, rfl⟩, q⟩
      · rw [if_neg h1]
        have e : (List.replicate ((n : Int)).toNat (#[c] : Array Nat)).foldl (· ++ ·) #[] = (List.replicate n c).toArray := by
          have := foldl_one c n []
          rw [Int.toNat_natCast]
          simpa using this
        show Made.post (Made.str ⟨(List.replicate ((n : Int)).toNat (#[c] : Array Nat)).foldl (· ++ ·) #[]⟩) _ _
        rw [e]
        refine ⟨?_, .str _, H, I.tok _, ⟨_, rfl⟩, q⟩
        show (List.replicate n c).toArray.size ≤ _
        rw [List.size_toArray, List.length_replicate]; exact sz_of (by omega)
end AK
namespace AK
open PySem PySem.Spec PyProof.Rows L2 Evl Ak
theorem el_repG {σ : St} {H : Hp} {ta tb : TE} {xs ys : List V} {n : Int} (h : EvL ta σ H xs) (hb : ∀ H1, Ex H H1 → Ev tb σ H1 (.int n)) (hn : n ≤ 100000) (h0 : -100000 ≤ n) (hl : xs.length * n.toNat ≤ 100000) (e : (List.replicate n.toNat xs).flatten = ys) : EvL (tOp rRep ta tb) σ H ys := fun H1 e1 Q q =>
  h H1 e1 _ fun p H2 hp0 e2 hp => hb H2 (e1.trans e2) H2 (Ex.refl _) _ fun H3 e3 => ⟨p, n, xs, rfl, rfl, e3 _ _ hp, by omega, by omega, sz_of hl, fun r hr => by
    rw [e]
    exact q r _ (fresh_back (e2.trans e3) hr) ((e2.trans e3).trans (Ex.new hr)) upd_same⟩
end AK
namespace AK
open PySem PySem.Spec PyProof.Rows L2 Evl Ak
theorem eu_if {σ : St} {H : Hp} {t : TT} {ta tb : TE} {xs : List V} {b : Bool} (h : EvT t σ H b) (h1 : b = true → EvU ta σ H xs) (h2 : b = false → EvU tb σ H xs) : EvU (tIf t ta tb) σ H xs := fun H1 e Q q => h H1 e _ fun H2 e2 => by
  cases b with
  | true =>
    show ta σ H2 Q
    exact h1 rfl H2 (e.trans e2) Q fun p H3 hp e3 h3 => q p H3 (fresh_back e2 hp) (e2.trans e3) h3
  | false =>
    show tb σ H2 Q
    exact h2 rfl H2 (e.trans e2) Q fun p H3 hp e3 h3 => q p H3 (fresh_back e2 hp) (e2.trans e3) h3
end AK
namespace AK
open PySem PySem.Spec PyProof.Rows L2 Evl Ak
/-- o.m(..) of an answer that is of one class or of another one -/
def tMeth2 (C1 C2 : Addr) (m : Str) (sp1 sp2 : Sp) (ta : TE) (t : TA) : TE := fun σ H Q => ta σ H fun x H1 => ∃ a dx fs, x = .ref a ∧ fs.lookup m = none ∧
  ((H1 a = some (.ins C1 dx fs) ∧ t σ H1 fun vs H2 => sp1 (x :: (vs ++ [])) H2 Q E0) ∨ (H1 a = some (.ins C2 dx fs) ∧ t σ H1 fun vs H2 => sp2 (x :: (vs ++ [])) H2 Q E0))
theorem hmeth2 {X : Cx} {m : Str} {C1 C2 : Addr} {ps1 ps2 : List Str} {sp1 sp2 : Sp} {k1 k2 : Nat} {pos apos : Pos} {o e : Expr} {es : List Expr} {to : TE} {t : TA} {pl : Sem Bool} (h1 : HasM X.prog X.w X.K X.mg X.base CX0 k1 C1 m ps1 sp1) (h2 : HasM X.prog X.w X.K X.mg X.base CX0 k2 C2 m ps2 sp2) (hr1 : Room k1 X.A) (hr2 : Room k2 X.A) (ho : PE X o to) (ha : PA X (e :: es) t)
    (hst : starEach (e :: es) X.env = (false, eval e X.env) :: starEach es X.env := by rfl) (hpl : (backTo pos (starEach es X.env)).any (·.1) = false := by rfl)
    (ht : eval (.Call (.Attribute o m apos) (e :: es) [] pos) X.env = (do
      let ov ← eval o X.env
      standAt apos.atName
      let (f, first) ← holding [ov] (getMethod ov m pl)
      callWith pos f first (backTo pos (starEach (e :: es) X.env)) (backToKw pos (keywordEach [] X.env))) := by rfl) :
    PE X (.Call (.Attribute o m apos) (e :: es) [] pos) (tMeth2 C1 C2 m sp1 sp2 to t) := by
  obtain ⟨f1, fd1, cl1, me1, b1, G1⟩ := h1
  obtain ⟨f2, fd2, cl2, me2, b2, G2⟩ := h2
  refine ⟨fun pins s σ H Q I h => ?_⟩
  refine PySem.W.methodCall_KW (pl := pl) (thn (ho.run pins s σ H _ I h) fun u s1 ⟨x, H1, I1, rx, a, dx, fs, ex, l, q⟩ => ?_) ht
  subst ex
  obtain rfl : u = Value.ref a := rx
  rcases q with ⟨ea, q⟩ | ⟨ea, q⟩
  · refine getmeth_ok I1 ea cl1 me1 l ?_
    refine PySem.W.callWith_K (first := [.ref a]) (h₀ := X.base) I.ok.mod.kin me1.kp (thn (ha.run pos pins s1 σ H1 _ I1 q) fun us s2 ⟨vs, H2, I2, r, q2⟩ => ⟨I2.kIn, ?_⟩) hst hpl
    exact run_fn (us := .ref a :: us) (vs := .ref a :: vs) G1 hr1 b1 .nil pass0 I2 (.cons rfl r) q2
  · refine getmeth_ok I1 ea cl2 me2 l ?_
    refine PySem.W.callWith_K (first := [.ref a]) (h₀ := X.base) I.ok.mod.kin me2.kp (thn (ha.run pos pins s1 σ H1 _ I1 q) fun us s2 ⟨vs, H2, I2, r, q2⟩ => ⟨I2.kIn, ?_⟩) hst hpl
    exact run_fn (us := .ref a :: us) (vs := .ref a :: vs) G2 hr2 b2 .nil pass0 I2 (.cons rfl r) q2
section
variable {K : PySem.W.Frag} {σ : St} {H H0 : Hp} {te : TE} {x C1 C2 : Addr} {c : Bool} {ns : List V} {m : Str} {sp1 sp2 : Sp} {t : TA} {vs : List V} {v : V}
theorem ev_meth2 (h : Ev te σ H (.ref x)) (hx : AnsAt H0 x (if c then C1 else C2) ns) (e0 : Ex H0 H) (hm : ¬ m = "people") (ha : EvA t σ H vs) (hs1 : c = true → SpV sp1 (.ref x :: vs) H v) (hs2 : c = false → SpV sp2 (.ref x :: vs) H v) : Ev (tMeth2 C1 C2 m sp1 sp2 te t) σ H v := fun H1 e Q q => by
  obtain ⟨dx, l, h1, h2⟩ := hx
  refine h H1 e _ fun H2 e2 => ⟨x, dx, _, rfl, people_no l hm, ?_⟩
  cases c with
  | true => exact .inl ⟨((e0.trans e).trans e2) _ _ h1, ha H2 (e.trans e2) _ fun H3 e3 => by
      rw [List.append_nil]
      exact hs1 rfl H3 ((e.trans e2).trans e3) Q (fun H4 e4 => q H4 ((e2.trans e3).trans e4)) _⟩
  | false => exact .inr ⟨((e0.trans e).trans e2) _ _ h1, ha H2 (e.trans e2) _ fun H3 e3 => by
      rw [List.append_nil]
      exact hs2 rfl H3 ((e.trans e2).trans e3) Q (fun H4 e4 => q H4 ((e2.trans e3).trans e4)) _⟩
/-- .. of a new answer that is one of many -/
def EvM2 (te : TE) (σ : St) (H : Hp) (C1 C2 : Addr) (P : Bool → List V → Prop) : Prop := ∀ H1, Ex H H1 → ∀ Q : VK, (∀ c x H2 xs, P c xs → Ex H1 H2 → AnsNew H1 H2 x (if c then C1 else C2) xs → Q (.ref x) H2) → te σ H1 Q
theorem ev_meth2P {P : Bool → List V → Prop} (h : EvM2 te σ H C1 C2 P) (hm : ¬ m = "people") (ha : EvA t σ H vs) (hs1 : ∀ x H1 xs, P true xs → Ex H H1 → AnsAt H1 x C1 xs → SpV sp1 (.ref x :: vs) H1 v) (hs2 : ∀ x H1 xs, P false xs → Ex H H1 → AnsAt H1 x C2 xs → SpV sp2 (.ref x :: vs) H1 v) : Ev (tMeth2 C1 C2 m sp1 sp2 te t) σ H v := fun H1 e Q q =>
  h H1 e _ fun c x H2 xs hP e2 hA0 => by
    have hA := hA0.at
    obtain ⟨dx, l, h1, h2⟩ := id hA
    refine ⟨x, dx, _, rfl, people_no l hm, ?_⟩
    cases c with
    | true => exact .inl ⟨h1, ha H2 (e.trans e2) _ fun H3 e3 => by
        rw [List.append_nil]
        exact hs1 x H2 xs hP (e.trans e2) hA H3 e3 Q (fun H4 e4 => q H4 ((e2.trans e3).trans e4)) _⟩
    | false => exact .inr ⟨h1, ha H2 (e.trans e2) _ fun H3 e3 => by
        rw [List.append_nil]
        exact hs2 x H2 xs hP (e.trans e2) hA H3 e3 Q (fun H4 e4 => q H4 ((e2.trans e3).trans e4)) _⟩
theorem em2_call {P : Bool → List V → Prop} {sp : Sp} {E : XK} (h : EvA t σ H vs) (hs : ∀ H1, Ex H H1 → ∀ Q : VK, (∀ c x H2 xs, P c xs → Ex H1 H2 → AnsNew H1 H2 x (if c then C1 else C2) xs → Q (.ref x) H2) → sp vs H1 Q E) : EvM2 (tCall sp [] E t) σ H C1 C2 P := fun H1 e Q q =>
  h H1 e _ fun H2 e2 => by
    rw [List.append_nil]
    exact hs H2 (e.trans e2) Q (fun c x H3 xs hP e3 hA => q c x H3 xs hP (e2.trans e3) (hA.low e2))
end
end AK
namespace AK
open PySem PySem.Spec PyProof.Rows L2 Evl Ak
/-- try: f(..), then what follows -/
theorem q_tryCall {σ : St} {H : Hp} {tz : TS} {D : Ends} {sp : Sp} {W : Ends → WX} {t : TA} {vs : List V} (h : EvA t σ H vs) (k : ∀ H1, Ex H H1 → sp vs H1 (fun _ H2 => tz D σ H2) (WE (W { D with nx := tz D }) σ)) :
    tSeq (fun D σ H => tDrop (tCallS sp (WE (W D)) t) D σ H) tz D σ H :=
  h H (Ex.refl _) _ fun H1 e => k H1 e
end AK
namespace AK
open PySem PySem.Spec PyProof.Rows L2 Evl Ak
/-! ### pairs of counts at hand -/
def PX (R : Nat → Nat → Prop) (v : V) (H : Hp) : Prop := ∃ (T : Addr) (i j : Nat), v = .ref T ∧ H T = some (.tup [.int ((i + 1 : Nat) : Nat), .int ((j + 1 : Nat) : Nat)]) ∧ i ≤ 199 ∧ j ≤ 199 ∧ R i j
theorem px_kept (R : Nat → Nat → Prop) : Kept (PX R) := fun v H H' e ⟨T, i, j, h1, h2, h3⟩ => ⟨T, i, j, h1, e _ _ h2, h3⟩
section
variable {K : PySem.W.Frag} {σ : St} {H : Hp} {te : TE} {tr : TA} {tu tz : TS} {D : Ends} {R : Nat → Nat → Prop} {m : Nat}
theorem evx_pair {x y : Int} (h : EvU te σ H [.int x, .int y]) (hx : 1 ≤ x ∧ x ≤ 200) (hy : 1 ≤ y ∧ y ≤ 200) (hR : R (x.toNat - 1) (y.toNat - 1)) : EvX te σ H (PX R) := fun H1 e Q q =>
  h H1 e _ fun T H2 _ e2 hT => q _ H2 e2 ⟨T, x.toNat - 1, y.toNat - 1, rfl, by
    have e1 : ((x.toNat - 1 + 1 : Nat) : Int) = x := by omega
    have e2 : ((y.toNat - 1 + 1 : Nat) : Int) = y := by omega
    rw [e1, e2]; exact hT, by omega, by omega, hR⟩
theorem q_forPX {i1 i2 : Nat} (h : EvLX te σ H (PX R) m) (Pv : Hp → St → Hp → Prop) (h0 : ∀ H1, Ex H H1 → Pv H1 σ H1) (hx : ∀ Hb σ' H', Pv Hb σ' H' → Ex Hb H')
    (hs : ∀ Hb σ' H' i j, Ex H Hb → i ≤ 199 → j ≤ 199 → R i j → Pv Hb σ' H' → tu { D with nx := Pv Hb, ct := Pv Hb, bk := tz D } ((σ'.set i1 (some (.int ((i + 1 : Nat) : Nat)))).set i2 (some (.int ((j + 1 : Nat) : Nat)))) H') (hd : ∀ Hb σ' H', Ex H Hb → Pv Hb σ' H' → tz D σ' H') :
    tSeq (tFor (iList K te) (gTup K 2 (gCons (gName i1) (gCons (gName i2) gNil))) tu) tz D σ H :=
  h H (Ex.refl H) _ fun lp Hb xs _ eb hlp _ hxs => ⟨lp, rfl, ⟨xs, SqL.of hlp⟩, fun i m σ' H' => m = xs.length - i ∧ i ≤ xs.length ∧ Pv Hb σ' H', ⟨xs.length, by simp, Nat.zero_le _, h0 Hb eb⟩, by
    rintro i m σ' H' ⟨rfl, hi, p⟩
    have ex := hx Hb σ' H' p
    by_cases hlt : i < xs.length
    · refine .inr ⟨⟨xs, xs[i], SqL.of (ex _ _ hlp), by simp [hlt]⟩, Pv Hb, fun σ2 H3 p' => ⟨xs.length - (i + 1), by omega, rfl, hlt, p'⟩, fun y H3 yy => ?_⟩
      obtain ⟨e, yy⟩ := yy
      subst e
      have q := yy _ (SqL.of (ex _ _ hlp))
      rw [List.getElem?_eq_getElem hlt] at q
      have q := Option.some.inj q
      obtain ⟨T, a, b, h1, h2, h3, h4, h5⟩ := hxs _ (List.getElem_mem hlt)
      rw [← q, h1]
      exact ⟨T, _, rfl, SqT.of (ex _ _ h2), rfl, _, [_], rfl, _, [], rfl, rfl, hs Hb σ' _ a b eb h3 h4 h5 p⟩
    · have e : i = xs.length := by omega
      subst e
      exact .inl ⟨⟨xs, SqL.of (ex _ _ hlp), Nat.le_refl _⟩, hd Hb σ' H' eb p⟩⟩
theorem ev_hcL1 {sp : Sp} {E : XK} {xs vs : List V} {v : V} (h : EvL te σ H xs) (h2 : ∀ H1, Ex H H1 → EvA tr σ H1 vs) (hs : ∀ p H1, H1 p = some (.lst xs) → Ex H H1 → SpV sp (.ref p :: vs) H1 v) : Ev (tCall sp [] E (tCons te tr)) σ H v := fun H1 e Q q =>
  h H1 e _ fun p H2 _ e2 hp => h2 H2 (e.trans e2) H2 (Ex.refl _) _ fun H3 e3 => by
    show sp ((V.ref p :: vs) ++ []) H3 Q E
    rw [List.append_nil]
    exact hs p H3 (e3 _ _ hp) ((e.trans e2).trans e3) H3 (Ex.refl _) Q (fun H4 e4 => q H4 ((e2.trans e3).trans e4)) E
end
/-! ### the web of which the last two alone know one another -/
def loneK (n : Nat) : Rel := fun i j => (decide (i + 2 = n) && decide (j + 1 = n)) || (decide (i + 1 = n) && decide (j + 2 = n))
theorem loneK_w (n : Nat) : IsW n (loneK n) := by
  refine ⟨fun i j _ _ => ?_, fun i _ => ?_⟩
  · unfold loneK
    rw [Bool.or_comm, Bool.and_comm (decide (i + 1 = n)), Bool.and_comm (decide (i + 2 = n))]
  · unfold loneK
    simp only [Bool.or_eq_false_iff, Bool.and_eq_false_iff, decide_eq_false_iff_not]
    omega
theorem dash_row (n : Nat) : (⟨(List.replicate n 45).toArray⟩ : Str) = rowS n fun _ => false := by
  unfold rowS
  congr 2
  rw [show (fun j : Nat => sgN ((fun _ => false) j)) = fun _ => 45 from rfl, List.map_const', List.length_range]
def rCatT1 : R2 := fun x y H Q => ∃ i j, x = .str i ∧ y = .str j ∧ i.length + j.length ≤ sizeLine ∧ Q (.str (i ++ j)) H
theorem op_addS {X : Cx} : OpR X (binaryOp .Add) rCatT1 := op_add_str
section
variable {K : PySem.W.Frag} {σ : St} {H : Hp} {ta tb : TE}
theorem ev_repS {n : Nat} (h : Ev ta σ H (.str "-")) (h2 : Ev tb σ H (.int (n : Nat))) (hn : n ≤ 1000) : Ev (tOp rRepS1 ta tb) σ H (.str (rowS n fun _ => false)) := fun H1 e Q q =>
  h H1 e _ fun H2 e2 => h2 H2 (e.trans e2) _ fun H3 e3 => ⟨45, n, by rw [d_eq], rfl, hn, by rw [dash_row]; exact q H3 (e2.trans e3)⟩
theorem ev_addS {x y z : Str} (h : Ev ta σ H (.str x)) (h2 : Ev tb σ H (.str y)) (hl : x.length + y.length ≤ 10000) (hz : x ++ y = z) : Ev (tOp rCatT1 ta tb) σ H (.str z) := fun H1 e Q q =>
  h H1 e _ fun H2 e2 => h2 H2 (e.trans e2) _ fun H3 e3 => ⟨x, y, rfl, rfl, sz_of (by omega), by rw [hz]; exact q H3 (e2.trans e3)⟩
end
theorem row_app (m : Nat) (f : Nat → Bool) (b : Bool) : rowS m f ++ ⟨#[sgN b]⟩ = rowS (m + 1) fun j => if j = m then b else f j := by
  unfold rowS
  rw [List.range_succ, List.map_append]
  show (⟨((List.range m).map fun j => sgN (f j)).toArray ++ #[sgN b]⟩ : Str) = _
  congr 1
  have : (List.range m).map (fun j => sgN (if j = m then b else f j)) = (List.range m).map fun j => sgN (f j) := List.map_congr_left fun j hj => by
    have := List.mem_range.mp hj
    rw [if_neg (by omega)]
  rw [this]
  simp
theorem lone_a {n : Nat} (hn : 2 ≤ n) : (rowS (n - 1) fun _ => false) ++ ("x" : Str) = rowS n (loneK n (n - 2)) := by
  have h := row_app (n - 1) (fun _ => false) true
  rw [show n - 1 + 1 = n by omega] at h
  rw [x_eq]
  refine h.trans (row_congr fun j hj => ?_)
  unfold loneK
  rw [decide_eq_true (show n - 2 + 2 = n by omega), decide_eq_false (show ¬ n - 2 + 1 = n by omega)]
  by_cases c : j = n - 1
  · rw [if_pos c, decide_eq_true (show j + 1 = n by omega)]; rfl
  · rw [if_neg c, decide_eq_false (show ¬ j + 1 = n by omega)]; rfl
theorem xd_eq : ("x-" : Str) = ⟨#[sgN true]⟩ ++ ⟨#[sgN false]⟩ := by decide +kernel
theorem str_assoc (a b c : Str) : a ++ (b ++ c) = a ++ b ++ c := by
  obtain ⟨a⟩ := a
  obtain ⟨b⟩ := b
  obtain ⟨c⟩ := c
  show (⟨a ++ (b ++ c)⟩ : Str) = ⟨a ++ b ++ c⟩
  rw [Array.append_assoc]
theorem lone_b {n : Nat} (hn : 2 ≤ n) : (rowS (n - 2) fun _ => false) ++ ("x-" : Str) = rowS n (loneK n (n - 1)) := by
  rw [xd_eq, str_assoc, row_app, row_app]
  rw [show n - 2 + 1 + 1 = n by omega]
  refine row_congr fun j hj => ?_
  unfold loneK
  rw [decide_eq_false (show ¬ n - 1 + 2 = n by omega), decide_eq_true (show n - 1 + 1 = n by omega)]
  by_cases c : j = n - 2 + 1
  · rw [if_pos c, decide_eq_false (show ¬ j + 2 = n by omega)]; rfl
  · rw [if_neg c]
    by_cases c2 : j = n - 2
    · rw [if_pos c2, decide_eq_true (show j + 2 = n by omega)]; rfl
    · rw [if_neg c2, decide_eq_false (show ¬ j + 2 = n by omega)]; rfl
theorem lone_web {n : Nat} (hn : 2 ≤ n) : (List.replicate (((n : Int) - 2)).toNat [V.str (rowS n fun _ => false)]).flatten ++ [V.str (rowS n (loneK n (n - 2))), V.str (rowS n (loneK n (n - 1)))] = webV n (loneK n) := by
  obtain ⟨m, rfl⟩ : ∃ m, n = m + 2 := ⟨n - 2, by omega⟩
  have e : (((m + 2 : Nat) : Int) - 2).toNat = m := by omega
  rw [e]
  unfold webV
  rw [List.range_succ, List.range_succ, List.map_append, List.map_append, List.append_assoc]
  have e2 : (List.replicate m [V.str (rowS (m + 2) fun _ => false)]).flatten = (List.range m).map fun i => V.str (rowS (m + 2) (loneK (m + 2) i)) := by
    have e3 : ((List.range m).map fun i => V.str (rowS (m + 2) (loneK (m + 2) i))) = (List.range m).map fun _ => V.str (rowS (m + 2) fun _ => false) := List.map_congr_left fun i hi => by
      have := List.mem_range.mp hi
      congr 1
      refine row_congr fun j _ => ?_
      unfold loneK
      rw [decide_eq_false (show ¬ i + 2 = m + 2 by omega), decide_eq_false (show ¬ i + 1 = m + 2 by omega)]; rfl
    rw [e3]
    generalize (V.str (rowS (m + 2) fun _ => false)) = z
    clear e e3 hn
    induction m with
    | zero => rfl
    | succ m ih => rw [List.replicate_succ', List.flatten_append, ih, List.range_succ, List.map_append]; simp
  rw [e2]; rfl
end AK

namespace AK
open PySem PySem.Spec PyProof.Rows L2 Evl Ak
/-! ### things that are no webs, no counts -/
inductive Sm (H : Hp) : V → String → Prop
  | non : Sm H .non "NoneType"
  | bl (b : Bool) : Sm H (.bl b) "bool"
  | int (i : Int) : Sm H (.int i) "int"
  | str (s : Str) : Sm H (.str s) "str"
  | tup {a : Addr} {xs : List V} (h : H a = some (.tup xs)) : Sm H (.ref a) "tuple"
  | dK {a : Addr} {kvs : List (Key × V)} (h : H a = some (.dK kvs)) : Sm H (.ref a) "dict"
  | lst {a : Addr} {xs : List V} (h : H a = some (.lst xs)) : Sm H (.ref a) "list"
theorem Sm.ex {H H' : Hp} {v : V} {s : String} (h : Sm H v s) (e : Ex H H') : Sm H' v s := by
  cases h with
  | non => exact .non
  | bl b => exact .bl b
  | int i => exact .int i
  | str z => exact .str z
  | tup h => exact .tup (e _ _ h)
  | dK h => exact .dK (e _ _ h)
  | lst h => exact .lst (e _ _ h)
theorem Sm.ty {K : PySem.W.Frag} {H : Hp} {v : V} {s : String} (h : Sm H v s) : TyX K H v (.type s) := by
  cases h with
  | non => exact .base .non
  | bl b => exact .base (.bl b)
  | int i => exact .base (.int i)
  | str z => exact .base (.str z)
  | tup h => exact .base (.tup h)
  | dK h => exact .base (.dK h)
  | lst h => exact .base (.lst h)
def isT (s T : String) : Bool := decide (s = T) || (decide (s = "bool") && decide (T = "int"))
theorem Sm.kit {K : PySem.W.Frag} {H : Hp} {v : V} {s : String} (h : Sm H v s) {T : String} (hT : T = "list" ∨ T = "str" ∨ T = "int" ∨ T = "bool") : PySem.W.kitOne K (.type s) (.type T) = some (isT s T) := by
  refine kit_ty ?_
  cases h <;> rcases hT with rfl | rfl | rfl | rfl <;> decide +kernel
section
variable {K : PySem.W.Frag} {σ : St} {H H0 : Hp} {ta tb te : TE} {v : V} {s : String}
theorem ev_isSm {T : String} (ha : Ev ta σ H v) (h : Sm H0 v s) (e : Ex H0 H) (hT : T = "list" ∨ T = "str" ∨ T = "int" ∨ T = "bool") : Ev (tCB (rIsi K) (tCons ta (tCons (tC (.ty T)) tNil))) σ H (.bl (isT s T)) :=
  ev_isi ha ev_c (fun H1 e1 => (h.ex (e.trans e1)).ty) (h.kit hT)
end
/-- sign j of row i -/
def ch (ss : List Str) (i j : Nat) : Nat := (ss.getD i Str.empty).cps.getD j 0
def GoodW (ss : List Str) : Prop := ∀ i, i < ss.length → (ss.getD i Str.empty).length = ss.length ∧ (∀ j, j < ss.length → ch ss i j = 120 ∨ ch ss i j = 45) ∧ ch ss i i = 45 ∧ ∀ j, j < i → ch ss i j = ch ss j i
inductive BadW (H : Hp) : V → Prop
  | other {v : V} {s : String} (h : Sm H v s) (hs : isT s "list" = false) : BadW H v
  | long {a : Addr} {xs : List V} (h : H a = some (.lst xs)) (h1 : 200 < xs.length) (h2 : xs.length ≤ 10000) : BadW H (.ref a)
  | mixed {a : Addr} {xs : List V} (h : H a = some (.lst xs)) (h1 : xs.length ≤ 200) (ts : List String) (h2 : ∀ i, i < xs.length → Sm H (xs.getD i .non) (ts.getD i "str")) (i : Nat) (h3 : i < xs.length) (h4 : isT (ts.getD i "str") "str" = false) : BadW H (.ref a)
  | web {a : Addr} (ss : List Str) (h : H a = some (.lst (ss.map V.str))) (h1 : ss.length ≤ 200) (h2 : ∀ i, (ss.getD i Str.empty).length ≤ 1000) (h3 : ¬ GoodW ss) : BadW H (.ref a)
theorem BadW.ex {H H' : Hp} {v : V} (h : BadW H v) (e : Ex H H') : BadW H' v := by
  cases h with
  | other h hs => exact .other (h.ex e) hs
  | long h h1 h2 => exact .long (e _ _ h) h1 h2
  | mixed h h1 ts h2 i h3 h4 => exact .mixed (e _ _ h) h1 ts (fun i hi => (h2 i hi).ex e) i h3 h4
  | web ss h h1 h2 h3 => exact .web ss (e _ _ h) h1 h2 h3
/-- no number between lo and hi -/
inductive BadC (H : Hp) (lo : Int) (hi : Option Int) : V → Prop
  | other {v : V} {s : String} (h : Sm H v s) (hs : isT s "int" = false) : BadC H lo hi v
  | bl (b : Bool) : BadC H lo hi (.bl b)
  | int (i : Int) (h : i < lo ∨ ∃ h, hi = some h ∧ h < i) : BadC H lo hi (.int i)
theorem BadC.ex {H H' : Hp} {lo : Int} {hi : Option Int} {v : V} (h : BadC H lo hi v) (e : Ex H H') : BadC H' lo hi v := by
  cases h with
  | other h hs => exact .other (h.ex e) hs
  | bl b => exact .bl b
  | int i h => exact .int i h
section
variable {K : PySem.W.Frag} {σ : St} {H H0 : Hp} {ta tb te : TE} {a D C : Addr} {xs : List V} {tz : TS} {Dd : Ends}
theorem q_dropS {sp : Sp} {W : WX} {t : TA} {vs : List V} (h : EvA t σ H vs) (k : ∀ H1, Ex H H1 → sp vs H1 (fun _ H2 => tz Dd σ H2) (WE W σ)) : tSeq (tDrop (tCallS sp (WE W) t)) tz Dd σ H := h H (Ex.refl _) _ k
theorem s_dropS {sp : Sp} {W : WX} {t : TA} {vs : List V} (h : EvA t σ H vs) (k : ∀ H1, Ex H H1 → sp vs H1 (fun _ H2 => Dd.nx σ H2) (WE W σ)) : tDrop (tCallS sp (WE W) t) Dd σ H := h H (Ex.refl _) _ k
/-- a call that raises, in a choice's branch -/
def EvR1 (te : TE) (σ : St) (H : Hp) : Prop := ∀ H1, Ex H H1 → ∀ Q : VK, te σ H1 Q
theorem er1_call {sp : Sp} {W : WX} {t : TA} {vs : List V} (h : EvA t σ H vs) (k : ∀ H1, Ex H H1 → ∀ Q : VK, sp vs H1 Q (WE W σ)) : EvR1 (tCallS sp (WE W) t) σ H := fun H1 e Q => h H1 e _ fun H2 e2 => k H2 (e.trans e2) Q
theorem er1_if {t : TT} {b : Bool} (h : EvT t σ H b) (h1 : b = true → EvR1 ta σ H) (h2 : b = false → EvR1 tb σ H) : EvR1 (tIf t ta tb) σ H := fun H1 e Q => h H1 e _ fun H2 e2 => by
  cases b with
  | true => show ta σ H2 Q; exact h1 rfl H2 (e.trans e2) Q
  | false => show tb σ H2 Q; exact h2 rfl H2 (e.trans e2) Q
theorem s_retR1 (h : EvR1 te σ H) : tRet te Dd σ H := h H (Ex.refl _) _
theorem ev_isEv {T : String} {b : Bool} (ha : Ev ta σ H (.ref a)) (hc : Ev tb σ H (.ty T)) (hk : PySem.W.kitOne K (.ref D) (.type T) = some b) : Ev (tCB (rIsE K D a) (tCons ta (tCons tb tNil))) σ H (.bl b) := fun H1 e Q q =>
  ha H1 e _ fun H2 e2 => hc H2 (e.trans e2) _ fun H3 e3 => ⟨.ty T, .type T, b, rfl, fun u r => r, hk, q H3 (e2.trans e3)⟩
end
theorem kit_val {K : PySem.W.Frag} {D : Addr} (h : PySem.W.subIn K (.ref D) (.type "ValueError") = some true) : PySem.W.kitOne K (.ref D) (.type "ValueError") = some true := by
  unfold PySem.W.kitOne
  have h1 : (Value.ref D == Value.type "ValueError") = false := rfl
  rw [h1, if_neg (by decide)]
  show (if PySem.W.kitMeta "ValueError" = true then PySem.W.subIn K (.ref D) (.type "ValueError") else none) = some true
  rw [if_pos (by decide +kernel), h]
def tsOr (t1 t2 : TS) : TS := fun D σ H => t1 D σ H ∨ t2 D σ H
theorem pss_or {X : Cx} {b : List Stmt} {t1 t2 : TS} (h1 : PSs X b t1) (h2 : PSs X b t2) : PSs X b (tsOr t1 t2) :=
  ⟨fun pins s σ H D I h => h.elim (h1.run pins s σ H D I) (h2.run pins s σ H D I)⟩
theorem hcall0 {X : Cx} {x : Str} {ps : List Str} {sp : Sp} {k : Nat} {p pos : Pos} (h : Has X.prog X.w X.K X.mg X.base CX0 k x ps sp) (hr : Room k X.A) (hg : Gl X x := by rfl) (hd : (x == ("__debug__" : Str)) = false := by decide) :
    PE X (.Call (.Name x p) [] [] pos) (tCall sp [] E0 tNil) := by
  obtain ⟨f, fd, m, kp, b, G⟩ := h
  exact pe_call0 G hr hg m kp b .nil pass0 hd
/-! ### lists of truths, compared -/
section
variable {K : PySem.W.Frag} {σ : St} {H : Hp} {ta tb : TE}
theorem dp_bls {p : Addr} {bs : List Bool} (h : SqL K H p (bs.map V.bl)) : Dp K H (.ref p) (.list (bs.map PyData.bool)) := by
  refine .lst h ?_
  clear h
  induction bs with
  | nil => exact .nil
  | cons n r ih => exact .cons (.bl n) ih
theorem lay_bls : ∀ ns : List Bool, PyData.canLayAll0 (ns.map PyData.bool) = true
  | [] => rfl
  | n :: r => by
    show (PyData.canLay0 (.bool n) && PyData.canLayAll0 (r.map PyData.bool)) = true
    rw [lay_bls r]; rfl
theorem depth_bls : ∀ ns : List Bool, PyData.depthAll (ns.map PyData.bool) = 0
  | [] => rfl
  | n :: r => by
    show max (PyData.depth (.bool n)) (PyData.depthAll (r.map PyData.bool)) = 0
    rw [depth_bls r]; rfl
theorem shaped_bls (ns : List Bool) : SeqAt.shaped (.list (ns.map PyData.bool)) = true := by
  unfold SeqAt.shaped
  show (PyData.canLayAll0 (ns.map PyData.bool) && decide (PyData.depthAll (ns.map PyData.bool) + 1 ≤ 64)) = true
  rw [lay_bls, depth_bls]; rfl
theorem eqv_bls : ∀ ns : List Bool, PyData.eqvAll (ns.map PyData.bool) (ns.map PyData.bool) = true
  | [] => rfl
  | n :: r => by
    show PyData.eqvAll (PyData.bool n :: r.map PyData.bool) (PyData.bool n :: r.map PyData.bool) = true
    rw [PyData.eqvAll, eqv_bls r]
    cases n <;> decide
/-- a list of truths is no other than itself -/
theorem ev_neQB {bs : List Bool} (h1 : EvQ K ta σ H (bs.map V.bl)) (h2 : EvQ K tb σ H (bs.map V.bl)) : Ev (tOp (rNeD K) ta tb) σ H (.bl false) := fun H1 e Q q =>
  h1 H1 e _ fun p H2 e2 hp => h2 H2 (e.trans e2) _ fun p' H3 e3 hp' => ⟨_, _, dp_bls (ex_l e3 hp), dp_bls hp', shaped_bls bs, shaped_bls bs, by
    have : PyData.eqv (.list (bs.map PyData.bool)) (.list (bs.map PyData.bool)) = true := by rw [PyData.eqv]; exact eqv_bls bs
    rw [this]; exact q H3 (e2.trans e3)⟩
end
/-! ### texts -/
theorem at_txt {z : Str} {j : Nat} (h : j < z.length) : atI z.cps.toList (j : Int) = some (z.cps.getD j 0) := by
  refine atI_nat ?_
  have h' : j < z.cps.size := h
  simp [h']
theorem dec_chr (c d : Nat) : decide (V.str ⟨#[c]⟩ = V.str ⟨#[d]⟩) = decide (c = d) := by
  by_cases h : c = d
  · subst h; simp
  · have : ¬ V.str ⟨#[c]⟩ = V.str ⟨#[d]⟩ := fun z => h (by injection z with z; injection z with z; simpa using z)
    rw [decide_eq_false this, decide_eq_false h]
theorem ram_mono1 (a b : Nat) : ram a b ≤ ram (a + 1) b := by
  cases b with
  | zero => rw [ram_b0, ram_b0]; exact Nat.le_refl _
  | succ b => rw [ram_succ]; omega
theorem ram_mono2 (a b : Nat) : ram a b ≤ ram a (b + 1) := by
  rw [ram_comm a b, ram_comm a (b + 1)]; exact ram_mono1 b a
theorem ram_le {a b a' b' : Nat} (h1 : a ≤ a') (h2 : b ≤ b') : ram a b ≤ ram a' b' := by
  obtain ⟨x, rfl⟩ := Nat.exists_eq_add_of_le h1
  obtain ⟨y, rfl⟩ := Nat.exists_eq_add_of_le h2
  refine Nat.le_trans (m := ram (a + x) b) ?_ ?_
  · induction x with
    | zero => exact Nat.le_refl _
    | succ x ih => exact Nat.le_trans (ih (by omega)) (ram_mono1 _ _)
  · clear h1 h2
    induction y with
    | zero => exact Nat.le_refl _
    | succ y ih => exact Nat.le_trans ih (ram_mono2 _ _)
end AK
namespace AK
open PySem PySem.Spec PyProof.Rows L2 Evl Ak
instance (ss : List Str) : Decidable (GoodW ss) := by unfold GoodW; exact inferInstance
def dashS (n : Nat) : Str := ⟨(List.replicate n 45).toArray⟩
def badRow (n a s : Nat) : Str := dashS ((a + 1) % n) ++ (["x", " ", "", "xx"] : List Str).getD s Str.empty ++ dashS (n - (a + 1) % n - 1)
def badRows (n a s : Nat) : List Str := (List.replicate n (dashS n)).set a (badRow n a s)
theorem badRows_bad : ∀ n, n < 7 → 2 ≤ n → ∀ a, a < n → ∀ s, s < 4 → ¬ GoodW (badRows n a s) := by decide +kernel
theorem badRows_len : ∀ n, n < 7 → 2 ≤ n → ∀ a, a < n → ∀ s, s < 4 → ∀ z ∈ badRows n a s, z.length ≤ 1000 := by decide +kernel
theorem getD_len {ss : List Str} (h : ∀ z ∈ ss, z.length ≤ 1000) (i : Nat) : (ss.getD i Str.empty).length ≤ 1000 := by
  by_cases hi : i < ss.length
  · rw [List.getD_eq_getElem?_getD, List.getElem?_eq_getElem hi]; exact h _ (List.getElem_mem hi)
  · rw [List.getD_eq_getElem?_getD, List.getElem?_eq_none (by omega)]; exact Nat.zero_le _
theorem bad_txts : ∀ ss ∈ ([[""], ["x"], ["-", "-"], ["-x", "--"], ["-X", "X-"], ["--", "-"], ["-x", "x-", ""], ["o"]] : List (List Str)), ¬ GoodW ss ∧ (∀ z ∈ ss, z.length ≤ 1000) ∧ ss.length ≤ 200 := by decide +kernel
def EvLY (te : TE) (σ : St) (H : Hp) (P : V → Hp → Prop) (m : Nat) : Prop := ∀ H1, Ex H H1 → ∀ Q : VK, (∀ p H2 xs, H1 p = none → Ex H1 H2 → H2 p = some (.lst xs) → xs.length = m → (∀ v ∈ xs, P v H2) → Q (.ref p) H2) → te σ H1 Q
section
variable {K : PySem.W.Frag} {σ : St} {H H0 : Hp} {ta tb te : TE} {t : TT} {xs ys : List V} {P : V → Hp → Prop} {m : Nat} {tz tu : TS} {D : Ends}
theorem ely_lst {ta : TA} (kp : Kept P) (h : EvAX ta σ H P m) (hm : m ≤ 100000) : EvLY (tLst ta) σ H P m := fun H1 e Q q =>
  h H1 e _ fun vs H2 e2 hl hvs => ⟨sz_of (by omega), fun p hp => q p _ vs (fresh_back e2 hp) (e2.trans (Ex.new hp)) upd_same hl fun v hv => kp _ _ _ (Ex.new hp) (hvs v hv)⟩
theorem ely_cat (kp : Kept P) {p : Addr} (h1 : Ev ta σ H (.ref p)) (hp : H0 p = some (.lst xs)) (e0 : Ex H0 H) (hP : ∀ v ∈ xs, P v H0) (h2 : EvLY tb σ H P m) (hl : xs.length + m ≤ 100000) : EvLY (tOp rCat ta tb) σ H P (xs.length + m) := fun H1 e Q q =>
  h1 H1 e _ fun H2 e2 => h2 H2 (e.trans e2) _ fun r H3 ys _ e3 hr hm hys => ⟨p, r, xs, ys, rfl, rfl, ((e0.trans e).trans (e2.trans e3)) _ _ hp, hr, sz_of (by omega), fun s hs => q s _ (xs ++ ys) (fresh_back (e2.trans e3) hs) ((e2.trans e3).trans (Ex.new hs)) upd_same (by rw [List.length_append]; omega) fun v hv => by
    rcases List.mem_append.mp hv with z | z
    · exact kp _ _ _ (((e0.trans e).trans (e2.trans e3)).trans (Ex.new hs)) (hP v z)
    · exact kp _ _ _ (Ex.new hs) (hys v z)⟩
theorem ely_if {b : Bool} (h : EvT t σ H b) (h1 : b = true → EvLY ta σ H P m) (h2 : b = false → EvLY tb σ H P m) : EvLY (tIf t ta tb) σ H P m := fun H1 e Q q => h H1 e _ fun H2 e2 => by
  cases b with
  | true => show ta σ H2 Q; exact h1 rfl H2 (e.trans e2) Q fun p H3 xs hp e3 h3 hl hx => q p H3 xs (fresh_back e2 hp) (e2.trans e3) h3 hl hx
  | false => show tb σ H2 Q; exact h2 rfl H2 (e.trans e2) Q fun p H3 xs hp e3 h3 hl hx => q p H3 xs (fresh_back e2 hp) (e2.trans e3) h3 hl hx
theorem q_asgLY {i : Nat} (h : EvLY te σ H P m) (k : ∀ p H1 xs, H p = none → Ex H H1 → H1 p = some (.lst xs) → xs.length = m → (∀ v ∈ xs, P v H1) → tz D (σ.set i (some (.ref p))) H1) : tSeq (tAsg te (gName i)) tz D σ H := h H (Ex.refl H) _ k
theorem evx_eu (h : EvU te σ H xs) (hp : ∀ p H1, Ex H H1 → H1 p = some (.tup xs) → P (.ref p) H1) : EvX te σ H P := fun H1 e Q q => h H1 e _ fun p H2 _ e2 hp2 => q _ H2 e2 (hp p H2 (e.trans e2) hp2)
theorem evx_dict (hp : ∀ p H1, H1 p = some (.dK []) → P (.ref p) H1) : EvX tDNewK σ H P := fun H1 e Q q p h => q _ _ (Ex.new h) (hp p _ upd_same)
theorem evx_txts {ss : List Str} (h : EvL te σ H (ss.map V.str)) (hs : ss ∈ ([[""], ["x"], ["-", "-"], ["-x", "--"], ["-X", "X-"], ["--", "-"], ["-x", "x-", ""], ["o"]] : List (List Str))) : EvX te σ H (fun v H => BadW H v) :=
  evx_el h fun p H1 _ hp => .web ss hp (bad_txts ss hs).2.2 (getD_len (bad_txts ss hs).2.1) (bad_txts ss hs).1
theorem badW_kept : Kept (fun v H => BadW H v) := fun v H H' e h => h.ex e
theorem evx_inner (h : EvL te σ H xs) : EvX (tLst (tCons te tNil)) σ H (fun v H => BadW H v) := fun H1 e Q q =>
  h H1 e _ fun p H2 _ e2 hp => ⟨sz_of (by simp), fun r hr => q _ _ (e2.trans (Ex.new hr)) (.mixed (xs := [V.ref p]) upd_same (by simp) ["list"] (fun i hi => by
    have : i = 0 := by simp at hi; omega
    subst this
    exact .lst ((Ex.new hr) _ _ hp)) 0 (by simp) (by decide))⟩
theorem evx_none : EvX (tLst (tCons (tC .non) tNil)) σ H (fun v H => BadW H v) := fun H1 e Q q =>
  ⟨sz_of (by simp), fun r hr => q _ _ (Ex.new hr) (.mixed (xs := [V.non]) upd_same (by simp) ["NoneType"] (fun i hi => by
    have : i = 0 := by simp at hi; omega
    subst this
    exact .non) 0 (by simp) (by decide))⟩
theorem eq_fldM2 {C1 C2 : Addr} {ns : List V} (h : EvM2 te σ H C1 C2 (fun _ xs => xs = ns)) (h1 : OwnC K C1) (h2 : OwnC K C2) : EvQ K (tFld K te "people") σ H ns := fun H1 e Q q =>
  h H1 e _ fun c x H2 xs hP e2 hA => by
    subst hP
    obtain ⟨dx, l, h3, h4⟩ := hA.at
    have hC : OwnC K (if c then C1 else C2) := by cases c; exact h2; exact h1
    exact ⟨x, _, dx, _, _, rfl, h3, hC.cl, hC.na, people_get l, q l H2 e2 (SqL.of h4)⟩
theorem em2_callL {C1 C2 : Addr} {P : Bool → List V → Prop} {sp : Sp} {E : XK} {tr : TA} {vs : List V} (h : EvL te σ H xs) (h2 : ∀ H1, Ex H H1 → EvA tr σ H1 vs) (hs : ∀ p H1, Ex H H1 → H1 p = some (.lst xs) → ∀ Q : VK, (∀ c x H2 xs, P c xs → Ex H1 H2 → AnsNew H1 H2 x (if c then C1 else C2) xs → Q (.ref x) H2) → sp (.ref p :: vs) H1 Q E) : EvM2 (tCall sp [] E (tCons te tr)) σ H C1 C2 P := fun H1 e Q q =>
  h H1 e _ fun p H2 _ e2 hp => h2 H2 (e.trans e2) H2 (Ex.refl _) _ fun H3 e3 => by
    show sp ((V.ref p :: vs) ++ []) H3 Q E
    rw [List.append_nil]
    exact hs p H3 ((e.trans e2).trans e3) (e3 _ _ hp) Q (fun c x H4 xs hP e4 hA => q c x H4 xs hP ((e2.trans e3).trans e4) (hA.low (e2.trans e3)))
end
end AK
namespace AK
open PySem PySem.Spec PyProof.Rows L2 Evl Ak
theorem one_web : [V.str "-"] = webV 1 fun _ _ => false := by
  have e : ([("-" : Str)] : List Str) = webL 1 fun _ _ => false := by decide +kernel
  rw [webV_eq, ← e]; rfl
end AK
namespace AK
open PySem PySem.Spec PyProof.Rows L2 Evl Ak
/-- f(e, g(..)), g one of many, in a try -/
theorem s_dropSW {σ : St} {H : Hp} {D : Ends} {spW spB : Sp} {W : WX} {E : XK} {te : TE} {ta : TA} {vs : List V} {d : V} (h1 : Ev te σ H d) (h2 : EvA ta σ H vs) (k : ∀ H1, Ex H H1 → spB vs H1 (fun v H2 => spW [d, v] H2 (fun _ H3 => D.nx σ H3) (WE W σ)) E) :
    tDrop (tCallS spW (WE W) (tCons te (tCons (tCall spB [] E ta) tNil))) D σ H :=
  h1 H (Ex.refl _) _ fun H1 e1 => h2 H1 e1 _ fun H2 e2 => by
    rw [List.append_nil]
    exact k H2 (e1.trans e2)
end AK
namespace AK
open PySem PySem.Spec PyProof.Rows L2 Evl Ak
/-- a, b = [pairs][i] -/
theorem q_pairIx {K : PySem.W.Frag} {σ : St} {H : Hp} {te ti : TE} {tz : TS} {D : Ends} {R : Nat → Nat → Prop} {m j x y : Nat} (h : EvLY te σ H (PX R) m) (hi : ∀ H1, Ex H H1 → Ev ti σ H1 (.int (j : Nat))) (hj : j < m)
    (k : ∀ H1 i1 i2, Ex H H1 → i1 ≤ 199 → i2 ≤ 199 → R i1 i2 → tz D ((σ.set x (some (.int ((i1 + 1 : Nat) : Nat)))).set y (some (.int ((i2 + 1 : Nat) : Nat)))) H1) :
    tSeq (tAsg (tOp (rIxL K) te ti) (gTup K 2 (gCons (gName x) (gCons (gName y) gNil)))) tz D σ H :=
  h H (Ex.refl _) _ fun q H5 ps q0 e5 hq5 hps hpr => hi H5 e5 H5 (Ex.refl _) _ fun H6 e6 => by
    have hjl : j < ps.length := by omega
    obtain ⟨T0, i1, i2, hT1, hT2, hi1, hi2, hR⟩ := hpr _ (List.getElem_mem hjl)
    refine ⟨q, ps, j, ps[j], rfl, rfl, SqL.of (e6 _ _ hq5), atI_nat (List.getElem?_eq_getElem hjl), ?_⟩
    rw [hT1]
    exact ⟨T0, _, rfl, SqT.of (e6 _ _ hT2), rfl, _, [_], rfl, _, [], rfl, rfl, k H6 i1 i2 (e5.trans e6) hi1 hi2 hR⟩
end AK
namespace AK
open PySem PySem.Spec PyProof.Rows L2 Evl Ak
theorem s_dropSL {σ : St} {H : Hp} {D : Ends} {sp : Sp} {W : WX} {te : TE} {tr : TA} {xs vs : List V} (h : EvL te σ H xs) (h2 : ∀ H1, Ex H H1 → EvA tr σ H1 vs) (k : ∀ p H1, Ex H H1 → H1 p = some (.lst xs) → sp (.ref p :: vs) H1 (fun _ H2 => D.nx σ H2) (WE W σ)) :
    tDrop (tCallS sp (WE W) (tCons te tr)) D σ H := h H (Ex.refl _) _ fun p H1 _ e1 hp => h2 H1 e1 H1 (Ex.refl _) _ fun H2 e2 => k p H2 (e1.trans e2) (e2 _ _ hp)
end AK

namespace AK
open PySem PySem.Spec PyProof.Rows L2 Evl Ak
/-! ### webs written out -/
def litK (ss : List Str) : Rel := fun i j => decide (ch ss i j = 120)
theorem lit_w {ss : List Str} (h : GoodW ss) : IsW ss.length (litK ss) := by
  refine ⟨fun i j hi hj => ?_, fun i hi => ?_⟩
  · unfold litK
    have e : ch ss i j = ch ss j i := by
      rcases Nat.lt_trichotomy i j with c | c | c
      · exact ((h j hj).2.2.2 i c).symm
      · rw [c]
      · exact (h i hi).2.2.2 j c
    rw [e]
  · unfold litK
    rw [(h i hi).2.2.1]; rfl
theorem lit_web {ss : List Str} (h : GoodW ss) : ss.map V.str = webV ss.length (litK ss) := by
  apply List.ext_getElem?
  intro i
  unfold webV
  by_cases hi : i < ss.length
  · rw [List.getElem?_map, List.getElem?_map, List.getElem?_range hi, List.getElem?_eq_getElem hi]
    show some (V.str ss[i]) = some (V.str (rowS ss.length (litK ss i)))
    congr 2
    have hg := h i hi
    have e0 : ss.getD i Str.empty = ss[i] := by rw [List.getD_eq_getElem?_getD, List.getElem?_eq_getElem hi]; rfl
    have hl : ss[i].cps.size = ss.length := by have := hg.1; rw [e0] at this; exact this
    unfold rowS
    have : ss[i].cps = ((List.range ss.length).map fun j => sgN (litK ss i j)).toArray := by
      apply Array.ext
      · rw [hl]; simp
      · intro j h1 h2
        have hj : j < ss.length := by omega
        have h3 := hg.2.1 j hj
        have h4 : ch ss i j = ss[i].cps[j] := by
          unfold ch
          rw [e0]
          simp [h1]
        simp only [List.getElem_toArray, List.getElem_map, List.getElem_range]
        unfold litK
        rw [← h4]
        rcases h3 with h3 | h3 <;> rw [h3] <;> decide
    rw [← this]
  · simp [hi]
/-! ### plain things: numbers, texts, None, lists and tuples of such -/
theorem Sm.kit2 {K : PySem.W.Frag} {H : Hp} {v : V} {s : String} (h : Sm H v s) {T : String} (hT : T = "list" ∨ T = "tuple" ∨ T = "str" ∨ T = "int" ∨ T = "bool") : PySem.W.kitOne K (.type s) (.type T) = some (isT s T) := by
  refine kit_ty ?_
  cases h <;> rcases hT with rfl | rfl | rfl | rfl | rfl <;> decide +kernel
inductive Plain (H : Hp) : Nat → V → Prop
  | non (d : Nat) : Plain H d .non
  | int (d : Nat) (i : Int) : Plain H d (.int i)
  | str (d : Nat) (s : Str) : Plain H d (.str s)
  | lst (d : Nat) {a : Addr} {xs : List V} (h : H a = some (.lst xs)) (h1 : xs.length ≤ 1000) (h2 : ∀ x ∈ xs, Plain H d x) : Plain H (d + 1) (.ref a)
  | tup (d : Nat) {a : Addr} {xs : List V} (h : H a = some (.tup xs)) (h1 : xs.length ≤ 1000) (h2 : ∀ x ∈ xs, Plain H d x) : Plain H (d + 1) (.ref a)
theorem Plain.ex {H H' : Hp} (e : Ex H H') : ∀ {d : Nat} {v : V}, Plain H d v → Plain H' d v
  | _, _, .non d => .non d
  | _, _, .int d i => .int d i
  | _, _, .str d s => .str d s
  | _, _, .lst d h h1 h2 => .lst d (e _ _ h) h1 fun x hx => (h2 x hx).ex e
  | _, _, .tup d h h1 h2 => .tup d (e _ _ h) h1 fun x hx => (h2 x hx).ex e
theorem plain_kept (d : Nat) : Kept (fun v H => Plain H d v) := fun v H H' e h => h.ex e
theorem Plain.ints {H : Hp} {p : Addr} {ns : List Int} (d : Nat) (h : H p = some (.lst (ns.map V.int))) (hl : ns.length ≤ 1000) : Plain H (d + 1) (.ref p) := .lst d h (by rw [List.length_map]; exact hl) fun x hx => by
  obtain ⟨i, _, rfl⟩ := List.mem_map.mp hx
  exact .int d i
def IsB (v : V) (_ : Hp) : Prop := ∃ b, v = .bl b
theorem isB_kept : Kept IsB := fun v H H' e h => h
section
variable {K : PySem.W.Frag} {σ : St} {H H0 : Hp} {ta tb te : TE} {v : V} {s : String}
theorem ev_isSm2 {T : String} (ha : Ev ta σ H v) (h : Sm H0 v s) (e : Ex H0 H) (hT : T = "list" ∨ T = "tuple" ∨ T = "str" ∨ T = "int" ∨ T = "bool") : Ev (tCB (rIsi K) (tCons ta (tCons (tC (.ty T)) tNil))) σ H (.bl (isT s T)) :=
  ev_isi ha ev_c (fun H1 e1 => (h.ex (e.trans e1)).ty) (h.kit2 hT)
end
/-- both places of a pair -/
theorem q_setBoth {K : PySem.W.Frag} {σ : St} {H H0 : Hp} {te : TE} {D : Ends} {l : Addr} {ps : List Addr} {g : Nat → List V} {x y z : Nat} {i j : Nat} {v : V} (r : RowsP H0 H l ps g) (hv : Ev te σ H v) (hl : σ[x]? = some (some (.ref l))) (hi : σ[y]? = some (some (.int (i : Nat)))) (hj : σ[z]? = some (some (.int (j : Nat)))) (hij : i ≠ j) (hi' : i < ps.length) (hj' : j < ps.length) (li : j < (g i).length) (lj : i < (g j).length)
    (k : ∀ H1 p1 p2, Ex H H1 → H0 p1 = none → H0 p2 = none → RowsP H0 (upd (upd H1 p1 (.lst ((g i).set j v))) p2 (.lst ((g j).set i v))) l ps (fun a => if a = j then (g j).set i v else if a = i then (g i).set j v else g a) → D.nx σ (upd (upd H1 p1 (.lst ((g i).set j v))) p2 (.lst ((g j).set i v)))) :
    tAsg (tTup (tCons te (tCons te tNil))) (gTup K 2 (gCons (gSub (tOp (rIxL K) (tVar x) (tVar y)) (tVar z) rSetL) (gCons (gSub (tOp (rIxL K) (tVar x) (tVar z)) (tVar y) rSetL) gNil))) D σ H := by
  refine hv H (Ex.refl _) _ fun H1 e1 => hv H1 e1 _ fun H2 e2 => ⟨sz_of (by simp), fun T hT => ?_⟩
  have e12 := e1.trans e2
  have r3 := (r.ex e12).ex (Ex.new (o := .tup [v, v]) hT)
  have e3 := e12.trans (Ex.new (o := .tup [v, v]) hT)
  obtain ⟨p1, hp1⟩ : ∃ p, ps[i]? = some p := ⟨ps[i], by simp [hi']⟩
  obtain ⟨p2, hp2⟩ : ∃ p, ps[j]? = some p := ⟨ps[j], by simp [hj']⟩
  have ne : p1 ≠ p2 := fun q => hij (nd_ix r.nd hp1 (q ▸ hp2))
  refine ⟨T, _, rfl, SqT.of upd_same, rfl, v, [v], rfl, ?_⟩
  have a1 : atI (ps.map V.ref) (i : Int) = some (V.ref p1) := atI_nat (by rw [List.getElem?_map, hp1]; rfl)
  have a2 : atI (ps.map V.ref) (j : Int) = some (V.ref p2) := atI_nat (by rw [List.getElem?_map, hp2]; rfl)
  refine ⟨_, hl, _, hi, l, ps.map V.ref, (i : Int), V.ref p1, rfl, rfl, SqL.of r3.hl, a1, _, hj, p1, g i, (j : Int), j, rfl, rfl, r3.hp i p1 hp1, ixN_nat li, ?_⟩
  have r4 := r3.set hp1 ((g i).set j v)
  refine ⟨v, [], rfl, ⟨_, hl, _, hj, l, ps.map V.ref, (j : Int), V.ref p2, rfl, rfl, SqL.of r4.hl, a2, _, hi, p2, g j, (i : Int), i, rfl, rfl, ?_, ixN_nat lj, rfl, ?_⟩⟩
  · have := r4.hp j p2 hp2
    simp only [if_neg (show ¬ j = i by omega)] at this
    exact this
  · exact k _ p1 p2 e3 (r.fp p1 (List.mem_of_getElem? hp1)) (r.fp p2 (List.mem_of_getElem? hp2)) (r4.set hp2 ((g j).set i v))
end AK

namespace AK
open PySem PySem.Spec PyProof.Rows L2 Evl Ak
/-! ### branches that meet again -/
theorem q_fork {a c : TS} {D : Ends} {σ : St} {H : Hp} (Inv : St → Hp → Prop) (k : ∀ σ' H', Inv σ' H' → c D σ' H') (h : ∀ D' : Ends, (∀ σ' H', Inv σ' H' → D'.nx σ' H') → a D' σ H) : tSeq a c D σ H := h { D with nx := c D } k
theorem q_fork2 {a b c : TS} {D : Ends} {σ : St} {H : Hp} (Inv : St → Hp → Prop) (k : ∀ σ' H', Inv σ' H' → c D σ' H') (h : ∀ D' : Ends, (∀ σ' H', Inv σ' H' → D'.nx σ' H') → tSeq a b D' σ H) : tSeq a (tSeq b c) D σ H := h { D with nx := c D } k
section
variable {K : PySem.W.Frag} {σ : St} {H H0 : Hp} {ta tb te : TE} {P : V → Hp → Prop} {tz : TS} {D : Ends} {xs ys : List V} {C C1 C2 : Addr} {m : Nat}
theorem s_appX {l : Addr} (hl : H l = some (.lst xs)) (ha : Ev ta σ H (.ref l)) (h : EvX te σ H P) (hz : xs.length < 100000) (k : ∀ v H1, Ex H H1 → P v H1 → D.nx σ (upd H1 l (.lst (xs ++ [v])))) :
    tDrop (tBM K "list" rAppend ta (tCons te tNil)) D σ H := ha H (Ex.refl H) _ fun H1 e1 =>
  ⟨Or.inl ⟨rfl, xs, sq_of (e1 l _ hl)⟩, h H1 e1 _ fun v H2 e2 hv => ⟨l, xs, v, rfl, rfl, e2 l _ (e1 l _ hl), sz_lt hz, k v H2 (e1.trans e2) hv⟩⟩
theorem q_appX {l : Addr} (hl : H l = some (.lst xs)) (ha : Ev ta σ H (.ref l)) (h : EvX te σ H P) (hz : xs.length < 100000) (k : ∀ v H1, Ex H H1 → P v H1 → tz D σ (upd H1 l (.lst (xs ++ [v])))) :
    tSeq (tDrop (tBM K "list" rAppend ta (tCons te tNil))) tz D σ H := s_appX (D := { D with nx := tz D }) hl ha h hz k
theorem evx_fldM2 {R : Bool → List V → Prop} (h : EvM2 te σ H C1 C2 R) (h1 : OwnC K C1) (h2 : OwnC K C2) (hp : ∀ c xs l H1 H2, R c xs → Ex H H1 → Ex H1 H2 → H1 l = none → H2 l = some (.lst xs) → P (.ref l) H2) : EvX (tFld K te "people") σ H P := fun H1 e Q q =>
  h H1 e _ fun c x H2 xs hP e2 hA => by
    obtain ⟨dx, l, xn, ln, ne, h3, h4⟩ := hA
    have hC : OwnC K (if c then C1 else C2) := by cases c; exact h2; exact h1
    exact ⟨x, _, dx, _, _, rfl, h3, hC.cl, hC.na, people_get l, q _ H2 e2 (hp c xs l H1 H2 hP e e2 ln h4)⟩
theorem EvMP.two1 {R : List V → Prop} (h : EvMP te σ H C1 R) : EvM2 te σ H C1 C2 (fun c xs => c = true ∧ R xs) := fun H1 e Q q => h H1 e Q fun x H2 xs hP e2 hA => q true x H2 xs ⟨rfl, hP⟩ e2 hA
theorem EvMP.two2 {R : List V → Prop} (h : EvMP te σ H C2 R) : EvM2 te σ H C1 C2 (fun c xs => c = false ∧ R xs) := fun H1 e Q q => h H1 e Q fun x H2 xs hP e2 hA => q false x H2 xs ⟨rfl, hP⟩ e2 hA
theorem evx_fldP {R : List V → Prop} (h : EvMP te σ H C R) (hC : OwnC K C) (hp : ∀ xs l H1 H2, R xs → Ex H H1 → Ex H1 H2 → H1 l = none → H2 l = some (.lst xs) → P (.ref l) H2) : EvX (tFld K te "people") σ H P :=
  evx_fldM2 (C1 := C) (C2 := C) h.two1 hC hC fun c xs l H1 H2 hR => hp xs l H1 H2 hR.2
theorem EvM2.imp {R S : Bool → List V → Prop} (h : EvM2 te σ H C1 C2 R) (hi : ∀ c xs, R c xs → S c xs) : EvM2 te σ H C1 C2 S := fun H1 e Q q => h H1 e Q fun c x H2 xs hP e2 hA => q c x H2 xs (hi c xs hP) e2 hA
/-- a truth that a new answer's method tells -/
theorem evx_meth2 {R : Bool → List V → Prop} {name : Str} {sp1 sp2 : Sp} {t : TA} {vs : List V} (h : EvM2 te σ H C1 C2 R) (hm : ¬ name = "people") (ha : ∀ H1, Ex H H1 → EvA t σ H1 vs) (hs1 : ∀ x H1 xs, R true xs → Ex H H1 → AnsAt H1 x C1 xs → ∃ b, SpV sp1 (.ref x :: vs) H1 (.bl b)) (hs2 : ∀ x H1 xs, R false xs → Ex H H1 → AnsAt H1 x C2 xs → ∃ b, SpV sp2 (.ref x :: vs) H1 (.bl b)) : EvX (tMeth2 C1 C2 name sp1 sp2 te t) σ H IsB := fun H1 e Q q =>
  h H1 e _ fun c x H2 xs hP e2 hA0 => by
    have hA := hA0.at
    obtain ⟨dx, l, h1, h2⟩ := id hA
    refine ⟨x, dx, _, rfl, people_no l hm, ?_⟩
    cases c with
    | true =>
      obtain ⟨b, hs⟩ := hs1 x H2 xs hP (e.trans e2) hA
      exact .inl ⟨h1, ha H2 (e.trans e2) H2 (Ex.refl _) _ fun H3 e3 => by
        rw [List.append_nil]
        exact hs H3 e3 Q (fun H4 e4 => q (.bl b) H4 ((e2.trans e3).trans e4) ⟨b, rfl⟩) _⟩
    | false =>
      obtain ⟨b, hs⟩ := hs2 x H2 xs hP (e.trans e2) hA
      exact .inr ⟨h1, ha H2 (e.trans e2) H2 (Ex.refl _) _ fun H3 e3 => by
        rw [List.append_nil]
        exact hs H3 e3 Q (fun H4 e4 => q (.bl b) H4 ((e2.trans e3).trans e4) ⟨b, rfl⟩) _⟩
theorem ev_notN {x : V} (h : Ev ta σ H x) (hb : Ev tb σ H .non) : Ev (tOp rNotN ta tb) σ H (.bl (!decide (x = .non))) := ev_op h hb fun H1 _ _ q => ⟨rfl, q H1 (Ex.refl H1)⟩
theorem ev_isU (h : EvU ta σ H xs) : Ev (tCB (rIsi K) (tCons ta (tCons (tC (.ty "tuple")) tNil))) σ H (.bl true) := fun H1 e Q q =>
  h H1 e _ fun p H2 _ e2 hp => ⟨.ref p, .ty "tuple", .type "tuple", .type "tuple", true, rfl, .ty "tuple", (Sm.tup hp).ty, (Sm.tup hp).kit2 (.inr (.inl rfl)), q H2 e2⟩
theorem q_parLL {i j : Nat} (h1 : EvLX ta σ H P m) (h2 : ∀ H1, Ex H H1 → EvL tb σ H1 ys) (k : ∀ p1 p2 H2 H3 xs, H p1 = none → H2 p2 = none → Ex H H2 → Ex H2 H3 → H2 p1 = some (.lst xs) → xs.length ≤ m → (∀ v ∈ xs, P v H2) → H3 p2 = some (.lst ys) → tz D ((σ.set i (some (.ref p1))).set j (some (.ref p2))) H3) :
    tSeq (tPar i j (tCons ta (tCons tb tNil))) tz D σ H :=
  h1 H (Ex.refl H) _ fun p1 H2 xs hp1 e1 h3 hl hv => h2 H2 e1 H2 (Ex.refl _) _ fun p2 H3 hp2 e2 h4 => ⟨_, _, rfl, k p1 p2 H2 H3 xs hp1 hp2 e1 e2 h3 hl hv h4⟩
theorem q_par2L {i j : Nat} (h1 : EvL ta σ H xs) (h2 : ∀ H1, Ex H H1 → EvL tb σ H1 ys) (k : ∀ p1 p2 H1, Ex H H1 → H1 p1 = some (.lst xs) → H1 p2 = some (.lst ys) → tz D ((σ.set i (some (.ref p1))).set j (some (.ref p2))) H1) :
    tSeq (tPar i j (tCons ta (tCons tb tNil))) tz D σ H :=
  h1 H (Ex.refl H) _ fun p1 H2 hp1 e1 h3 => h2 H2 e1 H2 (Ex.refl _) _ fun p2 H3 hp2 e2 h4 => ⟨_, _, rfl, k p1 p2 H3 (e1.trans e2) (e2 _ _ h3) h4⟩
end
/-! ### rows of numbers -/
def PI (v : V) (H : Hp) : Prop := (∃ i, v = .int i) ∨ ∃ q, ∃ ns : List Int, v = .ref q ∧ ns.length ≤ 1000 ∧ (H q = some (.lst (ns.map V.int)) ∨ H q = some (.tup (ns.map V.int)))
theorem pi_kept : Kept PI := fun v H H' e h => by
  rcases h with h | ⟨q, ns, h1, h2, h3 | h3⟩
  · exact .inl h
  · exact .inr ⟨q, ns, h1, h2, .inl (e _ _ h3)⟩
  · exact .inr ⟨q, ns, h1, h2, .inr (e _ _ h3)⟩
def PRow (p1 p2 : Addr) (v : V) (H : Hp) : Prop := PI v H ∧ ∀ q, v = .ref q → q ≠ p1 ∧ q ≠ p2
theorem prow_kept (p1 p2 : Addr) : Kept (PRow p1 p2) := fun v H H' e h => ⟨pi_kept v H H' e h.1, h.2⟩
theorem PRow.upd {p1 p2 : Addr} {v : V} {H : Hp} (h : PRow p1 p2 v H) {p : Addr} (hp : p = p1 ∨ p = p2) (o : HO) : PRow p1 p2 v (upd H p o) := by
  refine ⟨?_, h.2⟩
  rcases h.1 with h1 | ⟨q, ns, h1, h2, h3⟩
  · exact .inl h1
  · have hq := h.2 q h1
    have ne : q ≠ p := by rcases hp with rfl | rfl; exact hq.1; exact hq.2
    exact .inr ⟨q, ns, h1, h2, by rw [upd_ne ne]; exact h3⟩
theorem PI.plain {v : V} {H : Hp} (h : PI v H) : Plain H 1 v := by
  rcases h with ⟨i, rfl⟩ | ⟨q, ns, rfl, h2, h3 | h3⟩
  · exact .int 1 i
  · exact .lst 0 h3 (by rw [List.length_map]; exact h2) fun x hx => by
      obtain ⟨i, _, rfl⟩ := List.mem_map.mp hx
      exact .int 0 i
  · exact .tup 0 h3 (by rw [List.length_map]; exact h2) fun x hx => by
      obtain ⟨i, _, rfl⟩ := List.mem_map.mp hx
      exact .int 0 i
theorem PI.lst {H : Hp} {q : Addr} {ns : List Int} (h : H q = some (.lst (ns.map V.int))) (hl : ns.length ≤ 1000) : PI (.ref q) H := .inr ⟨q, ns, rfl, hl, .inl h⟩
theorem PI.tup {H : Hp} {q : Addr} {ns : List Int} (h : H q = some (.tup (ns.map V.int))) (hl : ns.length ≤ 1000) : PI (.ref q) H := .inr ⟨q, ns, rfl, hl, .inr h⟩
theorem PI.ne {H : Hp} {p q : Addr} {xs : List V} {v : V} (h : PI (.ref q) H) (hp : H p = some (.lst xs)) (h0 : xs[0]? = some v) (hv : ∀ i, v ≠ .int i) : q ≠ p := fun z => by
  subst z
  rcases h with ⟨i, h⟩ | ⟨q', ns, h1, _, h3 | h3⟩
  · cases h
  · cases h1
    rw [hp] at h3
    cases h3
    rw [List.getElem?_map] at h0
    cases h4 : ns[0]? with
    | none => rw [h4] at h0; cases h0
    | some i => rw [h4] at h0; exact hv i (Option.some.inj h0).symm
  · cases h1
    rw [hp] at h3
    cases h3
structure RS (H : Hp) (p1 p2 : Addr) (N : Nat) (xs bs : List V) (H' : Hp) : Prop where
  ex : Ex H H'
  ne : p1 ≠ p2
  n1 : H p1 = none
  n2 : H p2 = none
  h1 : H' p1 = some (.lst xs)
  h2 : H' p2 = some (.lst bs)
  l1 : xs.length ≤ N
  l2 : bs.length ≤ N
  rows : ∀ v ∈ xs, PRow p1 p2 v H'
  bls : ∀ b ∈ bs, IsB b H'
theorem RS.mono {H H' H'' : Hp} {p1 p2 : Addr} {N M : Nat} {xs bs : List V} (h : RS H p1 p2 N xs bs H') (e : Ex H' H'') (hm : N ≤ M) : RS H p1 p2 M xs bs H'' :=
  ⟨h.ex.trans e, h.ne, h.n1, h.n2, e _ _ h.h1, e _ _ h.h2, Nat.le_trans h.l1 hm, Nat.le_trans h.l2 hm, fun v hv => prow_kept _ _ _ _ _ e (h.rows v hv), h.bls⟩
theorem RS.add1 {H H' : Hp} {p1 p2 : Addr} {N : Nat} {xs bs : List V} {v : V} (h : RS H p1 p2 N xs bs H') (hv : PRow p1 p2 v H') : RS H p1 p2 (N + 1) (xs ++ [v]) bs (upd H' p1 (.lst (xs ++ [v]))) :=
  ⟨Ex.mut h.ex h.n1, h.ne, h.n1, h.n2, upd_same, by rw [upd_ne h.ne.symm]; exact h.h2, by rw [List.length_append]; have := h.l1; simp; omega, Nat.le_succ_of_le h.l2, fun w hw => by
    rcases List.mem_append.mp hw with z | z
    · exact (h.rows w z).upd (.inl rfl) _
    · rw [List.mem_singleton.mp z]; exact hv.upd (.inl rfl) _, h.bls⟩
theorem RS.add2 {H H' : Hp} {p1 p2 : Addr} {N : Nat} {xs bs : List V} {b : Bool} (h : RS H p1 p2 N xs bs H') : RS H p1 p2 (N + 1) xs (bs ++ [.bl b]) (upd H' p2 (.lst (bs ++ [.bl b]))) :=
  ⟨Ex.mut h.ex h.n2, h.ne, h.n1, h.n2, by rw [upd_ne h.ne]; exact h.h1, upd_same, Nat.le_succ_of_le h.l1, by rw [List.length_append]; have := h.l2; simp; omega, fun w hw => (h.rows w hw).upd (.inr rfl) _, fun w hw => by
    rcases List.mem_append.mp hw with z | z
    · exact h.bls w z
    · exact ⟨b, List.mem_singleton.mp z⟩⟩
theorem showsG {n : Nat} {k : Rel} {c : Bool} {m : Nat} {ps : List Nat} (h : GoodF n k c m ps) : showsB n k c (ps.map fun (i : Nat) => (i : Int)) = true := by
  unfold showsB
  rw [h.are, Bool.true_and, List.map_map]
  have e : (Int.toNat ∘ fun (i : Nat) => (i : Int)) = id := funext fun i => Int.toNat_natCast i
  rw [e, List.map_id]
  exact h.all
theorem goodF_len {n : Nat} {k : Rel} {c : Bool} {m : Nat} {ps : List Nat} (h : GoodF n k c m ps) : ps.length ≤ m := Nat.le_of_eq h.len
/-! ### a sign many times -/
theorem ev_repX {σ : St} {H : Hp} {ta tb : TE} {n : Nat} (h : Ev ta σ H (.str "x")) (h2 : Ev tb σ H (.int (n : Nat))) (hn : n ≤ 1000) : Ev (tOp rRepS1 ta tb) σ H (.str ⟨(List.replicate n 120).toArray⟩) := fun H1 e Q q =>
  h H1 e _ fun H2 e2 => h2 H2 (e.trans e2) _ fun H3 e3 => ⟨120, n, by rw [x_eq], rfl, hn, q H3 (e2.trans e3)⟩
end AK
namespace AK
open PySem PySem.Spec PyProof.Rows L2 Evl Ak
section
variable {K : PySem.W.Frag} {σ : St} {H H0 : Hp} {ta tb tc td te : TE} {tz tu : TS} {D : Ends} {xs ys : List V} {C C1 C2 : Addr} {m : Nat}
theorem ev_neUU {ns ms : List Int} (h1 : EvU ta σ H (ns.map V.int)) (h2 : EvU tb σ H (ms.map V.int)) : Ev (tOp (rNeD K) ta tb) σ H (.bl (!decide (ns = ms))) := fun H1 e Q q =>
  h1 H1 e _ fun p H2 _ e2 hp => h2 H2 (e.trans e2) _ fun r H3 _ e3 hr => ⟨_, _, dp_tupI (SqT.of (e3 _ _ hp)), dp_tupI (SqT.of hr), shaped_tupI ns, shaped_tupI ms, by rw [eqv_tupI]; exact q H3 (e2.trans e3)⟩
theorem ev_neBl {a b : Bool} (h : Ev ta σ H (.bl a)) (h2 : Ev tb σ H (.bl b)) : Ev (tOp rNe ta tb) σ H (.bl (a != b)) := ev_is (ev_op h h2 (rv_ne rfl)) (by cases a <;> cases b <;> rfl)
/-- isinstance of a new answer that can be of one class alone -/
theorem ev_isM2 {R : Bool → List V → Prop} {C' : Addr} {c0 b : Bool} (h : EvM2 te σ H C1 C2 R) (hR : ∀ c xs, R c xs → c = c0) (hc : Ev tb σ H (.ref C')) (hC : OwnC K (if c0 then C1 else C2)) (hk : PySem.W.kitOne K (.ref (if c0 then C1 else C2)) (.ref C') = some b) : Ev (tCB (rIsi K) (tCons te (tCons tb tNil))) σ H (.bl b) := fun H1 e Q q =>
  h H1 e _ fun c x H2 xs hP e2 hA => by
    have := hR _ _ hP
    subst this
    obtain ⟨dx, l, h1, h2⟩ := hA.at
    exact hc H2 (e.trans e2) _ fun H3 e3 => ⟨.ref x, .ref C', .ref (if c then C1 else C2), .ref C', b, rfl, .own C', .base (.ins (e3 _ _ h1) hC.cl hC.ha hC.hn hC.htk hC.hm), hk, q H3 (e2.trans e3)⟩
theorem ev_lenFld {R : Bool → List V → Prop} (h : EvM2 te σ H C1 C2 R) (h1 : OwnC K C1) (h2 : OwnC K C2) (hm : ∀ c xs, R c xs → xs.length = m) : Ev (tCB (rLenQ K) (tCons (tFld K te "people") tNil)) σ H (.int (m : Nat)) := fun H1 e Q q =>
  h H1 e _ fun c x H2 xs hP e2 hA => by
    obtain ⟨dx, l, h3, h4⟩ := hA.at
    have hC : OwnC K (if c then C1 else C2) := by cases c; exact h2; exact h1
    have := hm _ _ hP
    subst this
    exact ⟨x, _, dx, _, _, rfl, h3, hC.cl, hC.na, people_get l, ⟨l, xs, rfl, .inl (SqL.of h4), q H2 e2⟩⟩
theorem q_parMP {i j : Nat} {R1 R2 : List V → Prop} (h1 : EvMP ta σ H C1 R1) (h2 : ∀ H1, Ex H H1 → EvMP tb σ H1 C2 R2) (k : ∀ x1 x2 H2 xs ys, Ex H H2 → R1 xs → R2 ys → AnsAt H2 x1 C1 xs → AnsAt H2 x2 C2 ys → tz D ((σ.set i (some (.ref x1))).set j (some (.ref x2))) H2) :
    tSeq (tPar i j (tCons ta (tCons tb tNil))) tz D σ H :=
  h1 H (Ex.refl H) _ fun x1 H1 xs r1 e1 a1 => h2 H1 e1 H1 (Ex.refl _) _ fun x2 H2 ys r2 e2 a2 => ⟨_, _, rfl, k x1 x2 H2 xs ys (e1.trans e2) r1 r2 (a1.at.ex e2) a2.at⟩
end
/-! ### tuples of three and of four at hand -/
def T3 (P : V → V → V → Hp → Prop) (v : V) (H : Hp) : Prop := ∃ T x y z, v = .ref T ∧ H T = some (.tup [x, y, z]) ∧ P x y z H
def T4 (P : V → V → V → V → Hp → Prop) (v : V) (H : Hp) : Prop := ∃ T x y z u, v = .ref T ∧ H T = some (.tup [x, y, z, u]) ∧ P x y z u H
section
variable {K : PySem.W.Frag} {σ : St} {H H0 : Hp} {ta tb tc td te : TE} {tz tu : TS} {D : Ends} {m : Nat}
theorem t3_kept {P : V → V → V → Hp → Prop} (kp : ∀ x y z, Kept fun v H => P x y z H) : Kept (T3 P) := fun v H H' e ⟨T, x, y, z, h1, h2, h3⟩ => ⟨T, x, y, z, h1, e _ _ h2, kp x y z v H H' e h3⟩
theorem t4_kept {P : V → V → V → V → Hp → Prop} (kp : ∀ x y z u, Kept fun v H => P x y z u H) : Kept (T4 P) := fun v H H' e ⟨T, x, y, z, u, h1, h2, h3⟩ => ⟨T, x, y, z, u, h1, e _ _ h2, kp x y z u v H H' e h3⟩
theorem evx_tup3 {P : V → V → V → Hp → Prop} {y z : V} (kp : ∀ x y z, Kept fun v H => P x y z H) (h : EvX ta σ H (fun x H => P x y z H)) (hb : ∀ H1, Ex H H1 → Ev tb σ H1 y) (hc : ∀ H1, Ex H H1 → Ev tc σ H1 z) : EvX (tTup (tCons ta (tCons tb (tCons tc tNil)))) σ H (T3 P) := fun H1 e Q q =>
  h H1 e _ fun x H2 e2 hx => hb H2 (e.trans e2) H2 (Ex.refl _) _ fun H3 e3 => hc H3 ((e.trans e2).trans e3) H3 (Ex.refl _) _ fun H4 e4 => ⟨sz_of (by simp), fun T hT => q _ _ (((e2.trans e3).trans e4).trans (Ex.new hT)) ⟨T, x, y, z, rfl, upd_same, kp x y z .non _ _ ((e3.trans e4).trans (Ex.new hT)) hx⟩⟩
theorem evx_tup4 {P : V → V → V → V → Hp → Prop} {y z u : V} (kp : ∀ x y z u, Kept fun v H => P x y z u H) (h : EvX ta σ H (fun x H => P x y z u H)) (hb : ∀ H1, Ex H H1 → Ev tb σ H1 y) (hc : ∀ H1, Ex H H1 → Ev tc σ H1 z) (hd : ∀ H1, Ex H H1 → Ev td σ H1 u) : EvX (tTup (tCons ta (tCons tb (tCons tc (tCons td tNil))))) σ H (T4 P) := fun H1 e Q q =>
  h H1 e _ fun x H2 e2 hx => hb H2 (e.trans e2) H2 (Ex.refl _) _ fun H3 e3 => hc H3 ((e.trans e2).trans e3) H3 (Ex.refl _) _ fun H4 e4 => hd H4 (((e.trans e2).trans e3).trans e4) H4 (Ex.refl _) _ fun H5 e5 => ⟨sz_of (by simp), fun T hT => q _ _ ((((e2.trans e3).trans e4).trans e5).trans (Ex.new hT)) ⟨T, x, y, z, u, rfl, upd_same, kp x y z u .non _ _ (((e3.trans e4).trans e5).trans (Ex.new hT)) hx⟩⟩
theorem q_for3X {i1 i2 i3 : Nat} {P : V → V → V → Hp → Prop} (h : EvLX te σ H (T3 P) m) (Pv : Hp → St → Hp → Prop) (h0 : ∀ H1, Ex H H1 → Pv H1 σ H1) (hx : ∀ Hb σ' H', Pv Hb σ' H' → Ex Hb H')
    (hs : ∀ Hb σ' H' x y z, Ex H Hb → P x y z Hb → Pv Hb σ' H' → tu { D with nx := Pv Hb, ct := Pv Hb, bk := tz D } (((σ'.set i1 (some x)).set i2 (some y)).set i3 (some z)) H') (hd : ∀ Hb σ' H', Ex H Hb → Pv Hb σ' H' → tz D σ' H') :
    tSeq (tFor (iList K te) (gTup K 3 (gCons (gName i1) (gCons (gName i2) (gCons (gName i3) gNil)))) tu) tz D σ H :=
  h H (Ex.refl H) _ fun lp Hb xs _ eb hlp _ hxs => ⟨lp, rfl, ⟨xs, SqL.of hlp⟩, fun i m σ' H' => m = xs.length - i ∧ i ≤ xs.length ∧ Pv Hb σ' H', ⟨xs.length, by simp, Nat.zero_le _, h0 Hb eb⟩, by
    rintro i m σ' H' ⟨rfl, hi, p⟩
    have ex := hx Hb σ' H' p
    by_cases hlt : i < xs.length
    · refine .inr ⟨⟨xs, xs[i], SqL.of (ex _ _ hlp), by simp [hlt]⟩, Pv Hb, fun σ2 H3 p' => ⟨xs.length - (i + 1), by omega, rfl, hlt, p'⟩, fun y H3 yy => ?_⟩
      obtain ⟨e, yy⟩ := yy
      subst e
      have q := yy _ (SqL.of (ex _ _ hlp))
      rw [List.getElem?_eq_getElem hlt] at q
      have q := Option.some.inj q
      obtain ⟨T, x, y', z, h1, h2, h3⟩ := hxs _ (List.getElem_mem hlt)
      rw [← q, h1]
      exact ⟨T, _, rfl, SqT.of (ex _ _ h2), rfl, _, [_, _], rfl, _, [_], rfl, _, [], rfl, rfl, hs Hb σ' _ x y' z eb h3 p⟩
    · have e : i = xs.length := by omega
      subst e
      exact .inl ⟨⟨xs, SqL.of (ex _ _ hlp), Nat.le_refl _⟩, hd Hb σ' H' eb p⟩⟩
theorem q_for4X {i1 i2 i3 i4 : Nat} {lp : Addr} {xs : List V} {P : V → V → V → V → Hp → Prop} (h : Ev te σ H (.ref lp)) (hlp0 : H lp = some (.lst xs)) (hxs : ∀ v ∈ xs, T4 P v H) (Pv : St → Hp → Prop) (h0 : ∀ H1, Ex H H1 → Pv σ H1) (hx : ∀ σ' H', Pv σ' H' → Ex H H')
    (hs : ∀ σ' H' x y z u, P x y z u H → Pv σ' H' → tu { D with nx := Pv, ct := Pv, bk := tz D } ((((σ'.set i1 (some x)).set i2 (some y)).set i3 (some z)).set i4 (some u)) H') (hd : ∀ σ' H', Pv σ' H' → tz D σ' H') :
    tSeq (tFor (iList K te) (gTup K 4 (gCons (gName i1) (gCons (gName i2) (gCons (gName i3) (gCons (gName i4) gNil))))) tu) tz D σ H :=
  h H (Ex.refl H) _ fun Hb eb => ⟨lp, rfl, ⟨xs, SqL.of (eb _ _ hlp0)⟩, fun i m σ' H' => m = xs.length - i ∧ i ≤ xs.length ∧ Pv σ' H', ⟨xs.length, by simp, Nat.zero_le _, h0 Hb eb⟩, by
    rintro i m σ' H' ⟨rfl, hi, p⟩
    have ex := hx σ' H' p
    by_cases hlt : i < xs.length
    · refine .inr ⟨⟨xs, xs[i], SqL.of (ex _ _ hlp0), by simp [hlt]⟩, Pv, fun σ2 H3 p' => ⟨xs.length - (i + 1), by omega, rfl, hlt, p'⟩, fun y H3 yy => ?_⟩
      obtain ⟨e, yy⟩ := yy
      subst e
      have q := yy _ (SqL.of (ex _ _ hlp0))
      rw [List.getElem?_eq_getElem hlt] at q
      have q := Option.some.inj q
      obtain ⟨T, x, y', z, u, h1, h2, h3⟩ := hxs _ (List.getElem_mem hlt)
      rw [← q, h1]
      exact ⟨T, _, rfl, SqT.of (ex _ _ h2), rfl, _, [_, _, _], rfl, _, [_, _], rfl, _, [_], rfl, _, [], rfl, rfl, hs σ' _ x y' z u h3 p⟩
    · have e : i = xs.length := by omega
      subst e
      exact .inl ⟨⟨xs, SqL.of (ex _ _ hlp0), Nat.le_refl _⟩, hd σ' H' p⟩⟩
end
/-! ### all know one another -/
def fullK : Rel := fun i j => decide (i ≠ j)
theorem full_row : ∀ i, i < 6 → ∀ s1 s2 : Str, s1 = ⟨(List.replicate i 120).toArray⟩ ++ ("-" : Str) → s2 = s1 ++ ⟨(List.replicate (5 - i) 120).toArray⟩ → V.str s2 = V.str (rowS 6 (fullK i)) := by
  intro i hi s1 s2 h1 h2
  have : ∀ i, i < 6 → ((⟨(List.replicate i 120).toArray⟩ : Str) ++ ("-" : Str)) ++ ⟨(List.replicate (5 - i) 120).toArray⟩ = rowS 6 (fullK i) := by decide +kernel
  rw [h2, h1, this i hi]
end AK
namespace AK
open PySem PySem.Spec PyProof.Rows L2 Evl Ak
/-- all([f(x) for x in [..]]), each of a new list's items as asked -/
theorem ev_allLX {K : PySem.W.Frag} {σ : St} {H : Hp} {te tb : TE} {P : V → Hp → Prop} {m j : Nat} {vs : List Nat} (h : EvLX te σ H P m) (hm : m ≤ 1000) (kp : Kept P) (hw : ∀ x, wipe ((wipe σ vs).set j (some x)) vs = wipe σ vs) (hb : ∀ v H1, Ex H H1 → P v H1 → Ev tb ((wipe σ vs).set j (some v)) H1 (.bl true)) :
    Ev (tCB (rAll K) (tCons (tLc (iList K te) (gName j) tYes tb vs) tNil)) σ H (.bl true) := fun H1 e Q q =>
  h H1 e _ fun p H2 xs _ e2 hp hl hv => by
    have h1 := ev_allR (K := K) (n := xs.length) (g := fun _ => true) (el_map (te := tb) (j := j) (vs := vs) (σ := σ) (fun _ => V.bl true) (ew_list (K := K) (tl := tC (.ref p)) (H := H2) ev_c (SqL.of hp) (Ex.refl _)) (by omega) hw fun i H3 e3 hi => by
      rw [getD_eq (List.getElem?_eq_getElem hi)]
      exact hb _ H3 ((e.trans e2).trans e3) (kp _ _ _ e3 (hv _ (List.getElem_mem hi))))
    exact (ev_is h1 (by simp)) H2 (Ex.refl _) Q fun H3 e3 => q H3 (e2.trans e3)
/-- a pair put as is -/
def putB (k : Rel) (i j : Nat) (b : Bool) : Rel := fun x y => if (x = i ∧ y = j) ∨ (x = j ∧ y = i) then b else k x y
theorem putB_w {n : Nat} {k : Rel} {i j : Nat} {b : Bool} (h : IsW n k) (hij : j < i) : IsW n (putB k i j b) := by
  refine ⟨fun x y hx hy => ?_, fun x hx => ?_⟩
  · unfold putB
    rw [h.sym x y hx hy]
    by_cases c : (x = i ∧ y = j) ∨ (x = j ∧ y = i)
    · rw [if_pos c, if_pos (c.elim (fun q => .inr ⟨q.2, q.1⟩) fun q => .inl ⟨q.2, q.1⟩)]
    · rw [if_neg c, if_neg fun q => c (q.elim (fun q => .inr ⟨q.2, q.1⟩) fun q => .inl ⟨q.2, q.1⟩)]
  · unfold putB
    rw [if_neg (by omega), h.irr x hx]
theorem putB_rows {n i j : Nat} {k : Rel} {b : Bool} (hij : j < i) (a : Nat) : (if a = j then (sgRow n (k j)).set i (V.str (sgS b)) else if a = i then (sgRow n (k i)).set j (V.str (sgS b)) else sgRow n (k a)) = sgRow n (putB k i j b a) := by
  simp only [sgRow_set]
  by_cases c1 : a = j
  · subst c1
    rw [if_pos rfl]
    refine sgRow_congr fun x _ => ?_
    unfold putB
    have : ¬ a = i := by omega
    simp [this]
  · rw [if_neg c1]
    by_cases c2 : a = i
    · subst c2
      rw [if_pos rfl]
      refine sgRow_congr fun x _ => ?_
      unfold putB
      simp [c1]
    · rw [if_neg c2]
      refine sgRow_congr fun x _ => ?_
      unfold putB
      simp [c1, c2]
theorem xd_ix {r : Int} (h0 : 0 ≤ r) (h1 : r < 2) : ∃ c, atI ("x-" : Str).cps.toList r = some c ∧ (⟨#[c]⟩ : Str) = sgS (decide (r = 0)) := by
  have : r = 0 ∨ r = 1 := by omega
  rcases this with rfl | rfl
  · exact ⟨120, by decide +kernel, by decide +kernel⟩
  · exact ⟨45, by decide +kernel, by decide +kernel⟩
def WbX (K : PySem.W.Frag) (v : V) (H : Hp) : Prop := ∃ p n k, v = .ref p ∧ WebAt K H p n k
theorem wbX_kept (K : PySem.W.Frag) : Kept (WbX K) := fun v H H' e ⟨p, n, k, h1, h2⟩ => ⟨p, n, k, h1, h2.ex e⟩
end AK

namespace AK
open PySem PySem.Spec PyProof.Rows L2 Evl Ak
def top (i : Nat) : Stmt := PySem.Challenge.pw_allknown_k07_whole_numbers.main.body.getD i (.Pass ⟨0, 0, 0, 0⟩)
abbrev s_is_number : Stmt := top 7
abbrev s_asked_web : Stmt := top 8
abbrev s_ties : Stmt := top 9
abbrev s_turned_of : Stmt := top 10
abbrev s_turned : Stmt := top 11
abbrev s_all_as : Stmt := top 12
abbrev s_are_people : Stmt := top 15
abbrev s_Known___init__ : Stmt := inClass (top 16) 0
abbrev s_Known_shows : Stmt := inClass (top 16) 1
abbrev s_Unknown___init__ : Stmt := inClass (top 17) 0
abbrev s_Unknown_shows : Stmt := inClass (top 17) 1
abbrev s_alike : Stmt := top 19
abbrev s_three : Stmt := top 20
abbrev s_asked_size : Stmt := top 21
abbrev s_fewest : Stmt := top 22
abbrev s_web_of : Stmt := top 23
abbrev s_asked_group : Stmt := top 25
abbrev s_sure_of : Stmt := top 26
abbrev s_sure : Stmt := top 27
abbrev s_found : Stmt := top 28
abbrev s_common : Stmt := top 29
abbrev s_promised_by : Stmt := top 30
abbrev s_promised : Stmt := top 31
abbrev s_strangers_of : Stmt := top 32
abbrev s_strangers : Stmt := top 33
abbrev s_friends : Stmt := top 34
abbrev s_law_number : Stmt := top 36
abbrev s_law_plain : Stmt := top 37
abbrev s_law_truths : Stmt := top 38
abbrev s_law_web_right : Stmt := top 39
abbrev s_law_are_too_few : Stmt := top 40
abbrev s_law_groups_promises : Stmt := top 41
abbrev s_law_promises_right : Stmt := top 42
abbrev s_law : Stmt := top 43
theorem sc_is_number : FnScope ["thing"] ["thing"] (defScope s_is_number) := ⟨rfl, rfl, rfl, by decide +kernel, rfl, by decide +kernel, by decide +kernel⟩
theorem sc_asked_web : FnScope ["web", "one", "row", "other"] ["web"] (defScope s_asked_web) := ⟨rfl, rfl, rfl, by decide +kernel, rfl, by decide +kernel, by decide +kernel⟩
theorem sc_ties : FnScope ["web", "row"] ["web"] (defScope s_ties) := ⟨rfl, rfl, rfl, by decide +kernel, rfl, by decide +kernel, by decide +kernel⟩
theorem sc_turned_of : FnScope ["web", "found", "one", "row", "signs", "other", "sign"] ["web"] (defScope s_turned_of) := ⟨rfl, rfl, rfl, by decide +kernel, rfl, by decide +kernel, by decide +kernel⟩
theorem sc_turned : FnScope ["web"] ["web"] (defScope s_turned) := ⟨rfl, rfl, rfl, by decide +kernel, rfl, by decide +kernel, by decide +kernel⟩
theorem sc_all_as : FnScope ["web", "people", "sign", "at", "one", "other"] ["web", "people", "sign"] (defScope s_all_as) := ⟨rfl, rfl, rfl, by decide +kernel, rfl, by decide +kernel, by decide +kernel⟩
theorem sc_are_people : FnScope ["people", "web", "last", "one"] ["people", "web"] (defScope s_are_people) := ⟨rfl, rfl, rfl, by decide +kernel, rfl, by decide +kernel, by decide +kernel⟩
theorem sc_Known___init__ : FnScope ["self", "people"] ["self", "people"] (defScope s_Known___init__) := ⟨rfl, rfl, rfl, by decide +kernel, rfl, by decide +kernel, by decide +kernel⟩
theorem sc_Known_shows : FnScope ["self", "web"] ["self", "web"] (defScope s_Known_shows) := ⟨rfl, rfl, rfl, by decide +kernel, rfl, by decide +kernel, by decide +kernel⟩
theorem sc_Unknown___init__ : FnScope ["self", "people"] ["self", "people"] (defScope s_Unknown___init__) := ⟨rfl, rfl, rfl, by decide +kernel, rfl, by decide +kernel, by decide +kernel⟩
theorem sc_Unknown_shows : FnScope ["self", "web"] ["self", "web"] (defScope s_Unknown_shows) := ⟨rfl, rfl, rfl, by decide +kernel, rfl, by decide +kernel, by decide +kernel⟩
theorem sc_alike : FnScope ["web", "size", "mixed", "row"] ["web"] (defScope s_alike) := ⟨rfl, rfl, rfl, by decide +kernel, rfl, by decide +kernel, by decide +kernel⟩
theorem sc_three : FnScope ["web", "last", "middle", "first", "people"] ["web"] (defScope s_three) := ⟨rfl, rfl, rfl, by decide +kernel, rfl, by decide +kernel, by decide +kernel⟩
theorem sc_asked_size : FnScope ["size"] ["size"] (defScope s_asked_size) := ⟨rfl, rfl, rfl, by decide +kernel, rfl, by decide +kernel, by decide +kernel⟩
theorem sc_fewest : FnScope ["size"] ["size"] (defScope s_fewest) := ⟨rfl, rfl, rfl, by decide +kernel, rfl, by decide +kernel, by decide +kernel⟩
theorem sc_web_of : FnScope ["size", "near", "half", "found", "one", "signs", "other", "apart", "known", "step"] ["size"] (defScope s_web_of) := ⟨rfl, rfl, rfl, by decide +kernel, rfl, by decide +kernel, by decide +kernel⟩
theorem sc_asked_group : FnScope ["size"] ["size"] (defScope s_asked_group) := ⟨rfl, rfl, rfl, by decide +kernel, rfl, by decide +kernel, by decide +kernel⟩
theorem sc_sure_of : FnScope ["known", "unknown", "found", "at"] ["known", "unknown"] (defScope s_sure_of) := ⟨rfl, rfl, rfl, by decide +kernel, rfl, by decide +kernel, by decide +kernel⟩
theorem sc_sure : FnScope ["known", "unknown"] ["known", "unknown"] (defScope s_sure) := ⟨rfl, rfl, rfl, by decide +kernel, rfl, by decide +kernel, by decide +kernel⟩
theorem sc_found : FnScope ["web", "known", "unknown", "left", "friends", "strangers", "one", "near", "other"] ["web", "known", "unknown"] (defScope s_found) := ⟨rfl, rfl, rfl, by decide +kernel, rfl, by decide +kernel, by decide +kernel⟩
theorem sc_common : FnScope ["one", "other"] ["one", "other"] (defScope s_common) := ⟨rfl, rfl, rfl, by decide +kernel, rfl, by decide +kernel, by decide +kernel⟩
theorem sc_promised_by : FnScope ["web", "above", "below", "row", "many", "by"] ["web"] (defScope s_promised_by) := ⟨rfl, rfl, rfl, by decide +kernel, rfl, by decide +kernel, by decide +kernel⟩
theorem sc_promised : FnScope ["web"] ["web"] (defScope s_promised) := ⟨rfl, rfl, rfl, by decide +kernel, rfl, by decide +kernel, by decide +kernel⟩
theorem sc_strangers_of : FnScope ["web", "left", "some", "counts", "one", "other"] ["web"] (defScope s_strangers_of) := ⟨rfl, rfl, rfl, by decide +kernel, rfl, by decide +kernel, by decide +kernel⟩
theorem sc_strangers : FnScope ["web"] ["web"] (defScope s_strangers) := ⟨rfl, rfl, rfl, by decide +kernel, rfl, by decide +kernel, by decide +kernel⟩
theorem sc_friends : FnScope ["web"] ["web"] (defScope s_friends) := ⟨rfl, rfl, rfl, by decide +kernel, rfl, by decide +kernel, by decide +kernel⟩
theorem sc_law_number : FnScope ["_law_cell", "_law_at", "_law_whole", "_law_blend", "_law_more"] ["_law_cell", "_law_at", "_law_whole"] (defScope s_law_number) := ⟨rfl, rfl, rfl, by decide +kernel, rfl, by decide +kernel, by decide +kernel⟩
theorem sc_law_plain : FnScope ["_law_thing", "_law_one"] ["_law_thing"] (defScope s_law_plain) := ⟨rfl, rfl, rfl, by decide +kernel, rfl, by decide +kernel, by decide +kernel⟩
theorem sc_law_truths : FnScope ["_law_things", "_law_one"] ["_law_things"] (defScope s_law_truths) := ⟨rfl, rfl, rfl, by decide +kernel, rfl, by decide +kernel, by decide +kernel⟩
theorem sc_law_web_right : FnScope ["_law_web", "_law_rows", "_law_shown", "_law_answer"] ["_law_web"] (defScope s_law_web_right) := ⟨rfl, rfl, rfl, by decide +kernel, rfl, by decide +kernel, by decide +kernel⟩
theorem sc_law_are_too_few : FnScope ["_law_web", "_law_known", "_law_unknown", "error"] ["_law_web", "_law_known", "_law_unknown"] (defScope s_law_are_too_few) := ⟨rfl, rfl, rfl, by decide +kernel, rfl, by decide +kernel, by decide +kernel⟩
theorem sc_law_groups_promises : FnScope ["_law_great", "_law_whole", "_law_none", "_law_ring", "_law_star", "_law_web", "_law_some", "_law_pals", "_law_alone", "_law_all_known", "_law_at"] [] (defScope s_law_groups_promises) := ⟨rfl, rfl, rfl, by decide +kernel, rfl, by decide +kernel, by decide +kernel⟩
theorem sc_law_promises_right : FnScope ["_law_ring", "_law_two", "_law_half", "_law_size", "_law_web", "_law_cases", "_law_people", "_law_known", "_law_unknown"] [] (defScope s_law_promises_right) := ⟨rfl, rfl, rfl, by decide +kernel, rfl, by decide +kernel, by decide +kernel⟩
theorem sc_law : FnScope ["_law_script", "_law_whole", "_law_many", "_law_signs", "_law_one", "_law_other", "_law_sign", "_law_drawn", "_law_row", "_law_web"] ["_law_script"] (defScope s_law) := ⟨rfl, rfl, rfl, by decide +kernel, rfl, by decide +kernel, by decide +kernel⟩
structure Txt (K : PySem.W.Frag) (mg : Str → Option Value) (cAnswer : Addr) (cKnown : Addr) (cUnknown : Addr) (cWebError : Addr) (cTooFew : Addr) : Prop where
  n_abs : mg "abs" = none
  n_all : mg "all" = none
  n_any : mg "any" = none
  n_bool : mg "bool" = none
  n_enumerate : mg "enumerate" = none
  n_int : mg "int" = none
  n_isinstance : mg "isinstance" = none
  n_len : mg "len" = none
  n_list : mg "list" = none
  n_min : mg "min" = none
  n_range : mg "range" = none
  n_sorted : mg "sorted" = none
  n_str : mg "str" = none
  n_sum : mg "sum" = none
  n_tuple : mg "tuple" = none
  c_MOST : ∃ t, mg "MOST" = some (.int 200 t)
  m_Answer : mg "Answer" = some (.ref cAnswer)
  m_Known : mg "Known" = some (.ref cKnown)
  m_Unknown : mg "Unknown" = some (.ref cUnknown)
  o_Known : OwnC K cKnown
  o_Unknown : OwnC K cUnknown
  kit : Kit3 K cAnswer cKnown cUnknown
  m_WebError : mg "WebError" = some (.ref cWebError)
  m_TooFew : mg "TooFew" = some (.ref cTooFew)
  r_TooFew : ErrC K cTooFew
  x_TooFew_WebError : PySem.W.exmOne K (.ref cTooFew) (.ref cWebError) = some true
  k_TooFew_TooFew : PySem.W.kitOne K (.ref cTooFew) (.ref cTooFew) = some true

def sp_is_number (K : PySem.W.Frag) : Sp := fun vs H Q _ => ∃ i : Int, vs = [.int i] ∧ RetV (.bl true) H Q
theorem spv_is_number {K : PySem.W.Frag} {H : Hp} {i : Int} : SpV (sp_is_number K) [.int i] H (.bl true) := fun _ _ _ q _ => ⟨i, rfl, q⟩

def sp_asked_web (K : PySem.W.Frag) : Sp := fun vs H Q _ => ∃ (a : Addr) (n : Nat) (k : Rel), vs = [.ref a] ∧ WebAt K H a n k ∧ RetV .non H Q
theorem spv_asked_web {K : PySem.W.Frag} {H : Hp} {a : Addr} {n : Nat} {k : Rel} (h : WebAt K H a n k) : SpV (sp_asked_web K) [.ref a] H .non := fun _ e _ q _ => ⟨a, n, k, rfl, h.ex e, q⟩

def degV (n : Nat) (k : Rel) : List V := (List.range n).map fun i => V.int (deg n k i)
def sp_ties (K : PySem.W.Frag) : Sp := fun vs H Q _ => ∃ (a : Addr) (n : Nat) (k : Rel), vs = [.ref a] ∧ WebAt K H a n k ∧ RetL (degV n k) H Q
theorem spl_ties {K : PySem.W.Frag} {H : Hp} {a : Addr} {n : Nat} {k : Rel} (h : WebAt K H a n k) : SpL (sp_ties K) [.ref a] H (degV n k) := fun _ e _ q _ => ⟨a, n, k, rfl, h.ex e, q⟩

def sp_turned_of (K : PySem.W.Frag) : Sp := fun vs H Q _ => ∃ (a : Addr) (n : Nat) (k : Rel), vs = [.ref a] ∧ WebAt K H a n k ∧ RetL (webV n (turn k)) H Q
theorem spl_turned_of {K : PySem.W.Frag} {H : Hp} {a : Addr} {n : Nat} {k : Rel} (h : WebAt K H a n k) : SpL (sp_turned_of K) [.ref a] H (webV n (turn k)) := fun _ e _ q _ => ⟨a, n, k, rfl, h.ex e, q⟩
theorem webV_part (n : Nat) (k : Rel) (i : Nat) : (List.range (i + 1)).map (fun a => V.str (rowS n (k a))) = (List.range i).map (fun a => V.str (rowS n (k a))) ++ [V.str (rowS n (k i))] := by
  rw [List.range_succ, List.map_append]; rfl
theorem decJ (i j : Nat) : decide (V.int (j : Nat) = V.int (i : Nat)) = decide (j = i) := by
  rw [dec_int']
  exact decide_eq_decide.mpr Int.ofNat_inj

def sp_turned (K : PySem.W.Frag) : Sp := fun vs H Q _ => ∃ (a : Addr) (n : Nat) (k : Rel), vs = [.ref a] ∧ WebAt K H a n k ∧ RetL (webV n (turn k)) H Q
theorem spl_turned {K : PySem.W.Frag} {H : Hp} {a : Addr} {n : Nat} {k : Rel} (h : WebAt K H a n k) : SpL (sp_turned K) [.ref a] H (webV n (turn k)) := fun _ e _ q _ => ⟨a, n, k, rfl, h.ex e, q⟩

def sp_all_as (K : PySem.W.Frag) : Sp := fun vs H Q _ => ∃ (a p : Addr) (n : Nat) (k : Rel) (b : Bool) (ps : List Nat), vs = [.ref a, .ref p, .str (sgS b)] ∧ WebAt K H a n k ∧ SqL K H p (natsV ps) ∧ (∀ i ∈ ps, i < n) ∧ ps.length ≤ 1000 ∧ RetV (.bl (allAs k b ps)) H Q
theorem spv_all_as {K : PySem.W.Frag} {H : Hp} {a p : Addr} {n : Nat} {k : Rel} {b : Bool} {ps : List Nat} (h : WebAt K H a n k) (hp : SqL K H p (natsV ps)) (hb : ∀ i ∈ ps, i < n) (hl : ps.length ≤ 1000) : SpV (sp_all_as K) [.ref a, .ref p, .str (sgS b)] H (.bl (allAs k b ps)) := fun _ e _ q _ => ⟨a, p, n, k, b, ps, rfl, h.ex e, ex_l e hp, hb, hl, q⟩

def sp_are_people (K : PySem.W.Frag) : Sp := fun vs H Q _ => ∃ (a p : Addr) (n : Nat) (k : Rel) (ns : List Int), vs = [.ref p, .ref a] ∧ WebAt K H a n k ∧ SqL K H p (ns.map V.int) ∧ RetV (.bl (areP n ns)) H Q
theorem spv_are_people {K : PySem.W.Frag} {H : Hp} {a p : Addr} {n : Nat} {k : Rel} {ns : List Int} (h : WebAt K H a n k) (hp : SqL K H p (ns.map V.int)) : SpV (sp_are_people K) [.ref p, .ref a] H (.bl (areP n ns)) := fun _ e _ q _ => ⟨a, p, n, k, ns, rfl, h.ex e, ex_l e hp, q⟩

abbrev sp_Known___init__ (K : PySem.W.Frag) (C : Addr) : Sp := spAns K C

def sp_Known_shows (K : PySem.W.Frag) (C : Addr) : Sp := fun vs H Q _ => ∃ (x a : Addr) (n : Nat) (k : Rel) (ns : List Int), vs = [.ref x, .ref a] ∧ AnsAt H x C (ns.map V.int) ∧ WebAt K H a n k ∧ RetV (.bl (showsB n k true ns)) H Q
theorem spv_Known_shows {K : PySem.W.Frag} {H : Hp} {x a C : Addr} {n : Nat} {k : Rel} {ns : List Int} (hx : AnsAt H x C (ns.map V.int)) (h : WebAt K H a n k) : SpV (sp_Known_shows K C) [.ref x, .ref a] H (.bl (showsB n k true ns)) := fun _ e _ q _ => ⟨x, a, n, k, ns, rfl, hx.ex e, h.ex e, q⟩

abbrev sp_Unknown___init__ (K : PySem.W.Frag) (C : Addr) : Sp := spAns K C

def sp_Unknown_shows (K : PySem.W.Frag) (C : Addr) : Sp := fun vs H Q _ => ∃ (x a : Addr) (n : Nat) (k : Rel) (ns : List Int), vs = [.ref x, .ref a] ∧ AnsAt H x C (ns.map V.int) ∧ WebAt K H a n k ∧ RetV (.bl (showsB n k false ns)) H Q
theorem spv_Unknown_shows {K : PySem.W.Frag} {H : Hp} {x a C : Addr} {n : Nat} {k : Rel} {ns : List Int} (hx : AnsAt H x C (ns.map V.int)) (h : WebAt K H a n k) : SpV (sp_Unknown_shows K C) [.ref x, .ref a] H (.bl (showsB n k false ns)) := fun _ e _ q _ => ⟨x, a, n, k, ns, rfl, hx.ex e, h.ex e, q⟩

def sp_alike (K : PySem.W.Frag) : Sp := fun vs H Q _ => ∃ (a : Addr) (n : Nat) (k : Rel), vs = [.ref a] ∧ WebAt K H a n k ∧ RetV (.int (alikeZ n k)) H Q
theorem spv_alike {K : PySem.W.Frag} {H : Hp} {a : Addr} {n : Nat} {k : Rel} (h : WebAt K H a n k) : SpV (sp_alike K) [.ref a] H (.int (alikeZ n k)) := fun _ e _ q _ => ⟨a, n, k, rfl, h.ex e, q⟩

def sp_three (K : PySem.W.Frag) (cK cU : Addr) : Sp := fun vs H Q _ => ∃ (a : Addr) (n : Nat) (k : Rel), vs = [.ref a] ∧ WebAt K H a n k ∧ (alikeN n k = 0 → RetV .non H Q) ∧
  ∀ (b : Bool) (f m l : Nat) (x : Addr) (H' : Hp), f < m → m < l → l < n → allAs k b [f, m, l] = true → Ex H H' → AnsNew H H' x (if b then cK else cU) (natsV [f, m, l]) → Q (.ref x) H'
theorem allAs3 (k : Rel) (b : Bool) (f m l : Nat) : allAs k b [f, m, l] = (k m f == b && (k l f == b && k l m == b)) := by
  unfold allAs
  simp [List.range_succ]
theorem three_none {n : Nat} {k : Rel} (h : ∀ l, l < n → ∀ m, m < l → ∀ f, f < m → allAs k true [f, m, l] = false ∧ allAs k false [f, m, l] = false) : alikeN n k = 0 := by
  rw [alikeN_zero]
  refine ⟨fun a b c ha hb hc z => ?_, fun a b c ha hb hc z => ?_⟩
  · have := (h a ha b hb c hc).1
    rw [allAs3, z.1, z.2.1, z.2.2] at this
    cases this
  · have h2 := (h a ha b hb c hc).2
    obtain ⟨z1, z2, z3⟩ := z
    rw [allAs3, z1, z2, z3] at h2
    cases h2
theorem three_some {n : Nat} {k : Rel} {b : Bool} {f m l : Nat} (h1 : f < m) (h2 : m < l) (h3 : l < n) (h : allAs k b [f, m, l] = true) : alikeN n k ≠ 0 := by
  intro z
  rw [alikeN_zero] at z
  rw [allAs3, Bool.and_eq_true, Bool.and_eq_true, beq_iff_eq, beq_iff_eq, beq_iff_eq] at h
  obtain ⟨e1, e2, e3⟩ := h
  cases b with
  | true => exact z.1 l m f h3 h2 h1 ⟨e3, e2, e1⟩
  | false => exact z.2 l m f h3 h2 h1 ⟨e3, e2, e1⟩
theorem spv_three {K : PySem.W.Frag} {cK cU : Addr} {H : Hp} {a : Addr} {n : Nat} {k : Rel} (h : WebAt K H a n k) (h0 : alikeN n k = 0) : SpV (sp_three K cK cU) [.ref a] H .non := fun H1 e Q q _ =>
  ⟨a, n, k, rfl, h.ex e, fun _ => q, fun b f m l x H' h1 h2 h3 hall _ _ => absurd h0 (three_some h1 h2 h3 hall)⟩

def sp_asked_size (K : PySem.W.Frag) : Sp := fun vs H Q _ => ∃ i : Int, vs = [.int i] ∧ 0 ≤ i ∧ RetV .non H Q
theorem spv_asked_size {K : PySem.W.Frag} {H : Hp} {i : Int} (h : 0 ≤ i) : SpV (sp_asked_size K) [.int i] H .non := fun _ _ _ q _ => ⟨i, rfl, h, q⟩

def sp_fewest (K : PySem.W.Frag) : Sp := fun vs H Q _ => ∃ i : Int, vs = [.int i] ∧ 0 ≤ i ∧ i < 2 ^ 200 ∧ RetV (.int (fewestZ i)) H Q
theorem spv_fewest {K : PySem.W.Frag} {H : Hp} {i : Int} (h : 0 ≤ i) (h2 : i < 2 ^ 200) : SpV (sp_fewest K) [.int i] H (.int (fewestZ i)) := fun _ _ _ q _ => ⟨i, rfl, h, h2, q⟩

def sp_web_of (K : PySem.W.Frag) : Sp := fun vs H Q _ => ∃ n : Nat, vs = [.int (n : Nat)] ∧ n ≤ 200 ∧ RetL (webV n (wofK n)) H Q
theorem spl_web_of {K : PySem.W.Frag} {H : Hp} {n : Nat} (h : n ≤ 200) : SpL (sp_web_of K) [.int (n : Nat)] H (webV n (wofK n)) := fun _ _ _ q _ => ⟨n, rfl, h, q⟩

def sp_asked_group (K : PySem.W.Frag) : Sp := fun vs H Q _ => ∃ a : Nat, vs = [.int ((a + 1 : Nat) : Nat)] ∧ a ≤ 199 ∧ RetV .non H Q
theorem spv_asked_group {K : PySem.W.Frag} {H : Hp} {a : Nat} (h : a ≤ 199) : SpV (sp_asked_group K) [.int ((a + 1 : Nat) : Nat)] H .non := fun _ _ _ q _ => ⟨a, rfl, h, q⟩

def sp_sure_of (K : PySem.W.Frag) : Sp := fun vs H Q _ => ∃ a b : Nat, vs = [.int ((a + 1 : Nat) : Nat), .int ((b + 1 : Nat) : Nat)] ∧ a ≤ 199 ∧ b ≤ 199 ∧ RetV (.int (ram a b : Nat)) H Q
theorem spv_sure_of {K : PySem.W.Frag} {H : Hp} {a b : Nat} (h : a ≤ 199) (h2 : b ≤ 199) : SpV (sp_sure_of K) [.int ((a + 1 : Nat) : Nat), .int ((b + 1 : Nat) : Nat)] H (.int (ram a b : Nat)) := fun _ _ _ q _ => ⟨a, b, rfl, h, h2, q⟩
theorem ram_div (i b : Nat) : ((ram i b : Nat) : Int) * (((b + 1 : Nat) : Int) - 1 + (1 + (i : Nat))) / (1 + (i : Nat)) = (ram (i + 1) b : Nat) := by
  have h := ram_mul (i + b) i b rfl
  have e1 : ((ram i b : Nat) : Int) * (((b + 1 : Nat) : Int) - 1 + (1 + (i : Nat))) = (((i + b + 1) * ram i b : Nat) : Int) := by
    rw [Int.natCast_mul, Int.mul_comm]
    congr 1
    omega
  have e2 : (1 + (i : Nat) : Int) = ((i + 1 : Nat) : Int) := by omega
  rw [e1, ← h, e2, Int.natCast_mul, Int.mul_ediv_cancel_left]
  omega

def sp_sure (K : PySem.W.Frag) : Sp := fun vs H Q _ => ∃ a b : Nat, vs = [.int ((a + 1 : Nat) : Nat), .int ((b + 1 : Nat) : Nat)] ∧ a ≤ 199 ∧ b ≤ 199 ∧ RetV (.int (ram a b : Nat)) H Q
theorem spv_sure {K : PySem.W.Frag} {H : Hp} {a b : Nat} (h : a ≤ 199) (h2 : b ≤ 199) : SpV (sp_sure K) [.int ((a + 1 : Nat) : Nat), .int ((b + 1 : Nat) : Nat)] H (.int (ram a b : Nat)) := fun _ _ _ q _ => ⟨a, b, rfl, h, h2, q⟩

def sp_found (K : PySem.W.Frag) (cK cU cT : Addr) : Sp := fun vs H Q E => ∃ (p : Addr) (n : Nat) (k : Rel) (a b : Nat), vs = [.ref p, .int ((a + 1 : Nat) : Nat), .int ((b + 1 : Nat) : Nat)] ∧ WebAt K H p n k ∧ a ≤ 199 ∧ b ≤ 199 ∧
  (n < ram a b → ∀ H', Ex H H' → E (.ref cT) none H') ∧
  (ram a b ≤ n → ∀ (c : Bool) (ps : List Nat) (x : Addr) (H' : Hp), GoodF n k c (if c then a + 1 else b + 1) ps → Ex H H' → AnsNew H H' x (if c then cK else cU) (natsV ps) → Q (.ref x) H')

def sp_common (K : PySem.W.Frag) : Sp := fun vs H Q _ => ∃ (a b : Nat), vs = [.int (a : Nat), .int (b : Nat)] ∧ RetV (.int (Nat.gcd a b : Nat)) H Q
theorem spv_common {K : PySem.W.Frag} {H : Hp} {a b : Nat} : SpV (sp_common K) [.int (a : Nat), .int (b : Nat)] H (.int (Nat.gcd a b : Nat)) := fun _ e _ q _ => ⟨a, b, rfl, q⟩
theorem gcd_turn (x y : Nat) : Nat.gcd y (x % y) = Nat.gcd x y := by rw [Nat.gcd_comm y (x % y), ← Nat.gcd_rec, Nat.gcd_comm]

def frV (n : Nat) (k : Rel) : List V := [.int ((frac n k n).1 : Nat), .int ((frac n k n).2 : Nat)]
def sp_promised_by (K : PySem.W.Frag) : Sp := fun vs H Q _ => ∃ (a : Addr) (n : Nat) (k : Rel), vs = [.ref a] ∧ WebAt K H a n k ∧ RetU (frV n k) H Q
theorem spu_promised_by {K : PySem.W.Frag} {H : Hp} {a : Addr} {n : Nat} {k : Rel} (h : WebAt K H a n k) : SpU (sp_promised_by K) [.ref a] H (frV n k) := fun _ e _ q _ => ⟨a, n, k, rfl, h.ex e, q⟩

def sp_promised (K : PySem.W.Frag) : Sp := fun vs H Q _ => ∃ (a : Addr) (n : Nat) (k : Rel), vs = [.ref a] ∧ WebAt K H a n k ∧ RetU (frV n k) H Q
theorem spu_promised {K : PySem.W.Frag} {H : Hp} {a : Addr} {n : Nat} {k : Rel} (h : WebAt K H a n k) : SpU (sp_promised K) [.ref a] H (frV n k) := fun _ e _ q _ => ⟨a, n, k, rfl, h.ex e, q⟩

structure GoodS (n : Nat) (k : Rel) (ps : List Nat) : Prop where
  srt : ps.Pairwise (· < ·)
  lt : ∀ i ∈ ps, i < n
  apart : ∀ u ∈ ps, ∀ v ∈ ps, u ≠ v → k u v = false
  big : wSum n k ≤ (fct n : Int) * ps.length
def GoodL (n : Nat) (k : Rel) (xs : List V) : Prop := ∃ ps, GoodS n k ps ∧ xs = natsV ps
def sp_strangers_of (K : PySem.W.Frag) : Sp := fun vs H Q _ => ∃ (a : Addr) (n : Nat) (k : Rel), vs = [.ref a] ∧ WebAt K H a n k ∧ ∀ xs, GoodL n k xs → RetL xs H Q
structure StrInv (n : Nat) (k : Rel) (left S : List Nat) : Prop where
  nd : left.Nodup
  lt : ∀ u ∈ left, u < n
  nd2 : S.Nodup
  lt2 : ∀ u ∈ S, u < n
  off : ∀ u ∈ left, ∀ v ∈ S, u ≠ v ∧ k v u = false
  apart : ∀ u ∈ S, ∀ v ∈ S, u ≠ v → k u v = false
  big : wOut n k left ≤ (fct n : Int) * S.length
  len : S.length + left.length ≤ n
theorem StrInv.start (n : Nat) (k : Rel) : StrInv n k (List.range n) [] :=
  ⟨List.nodup_range, fun u h => List.mem_range.mp h, List.nodup_nil, fun _ h => by simp at h, fun _ _ _ h => by simp at h, fun _ h => by simp at h, by rw [wOut_all]; simp, by simp⟩
theorem StrInv.step {n : Nat} {k : Rel} {left S : List Nat} {one : Nat} (hk : IsW n k) (h : StrInv n k left S) (h1 : one ∈ left) (hmin : ∀ u ∈ left, (left.filter (k one)).length ≤ (left.filter (k u)).length) :
    StrInv n k (left.filter (fun o => o != one && !k one o)) (S ++ [one]) := by
  have hone := h.lt one h1
  have hns : one ∉ S := fun z => (h.off one h1 one z).1 rfl
  refine ⟨h.nd.filter _, fun u hu => h.lt u (List.mem_filter.mp hu).1, ?_, ?_, ?_, ?_, ?_, ?_⟩
  · rw [List.nodup_append]
    exact ⟨h.nd2, by simp, fun a ha b hb => by
      have : b = one := by simpa using hb
      subst this
      exact fun z => hns (z ▸ ha)⟩
  · intro u hu
    rcases List.mem_append.mp hu with z | z
    · exact h.lt2 u z
    · rw [List.mem_singleton.mp z]; exact hone
  · intro u hu v hv
    obtain ⟨u1, u2⟩ := List.mem_filter.mp hu
    rcases List.mem_append.mp hv with z | z
    · exact h.off u u1 v z
    · rw [List.mem_singleton.mp z]
      simp at u2
      exact ⟨u2.1, u2.2⟩
  · intro u hu v hv ne
    rcases List.mem_append.mp hu with z | z
    · rcases List.mem_append.mp hv with y | y
      · exact h.apart u z v y ne
      · rw [List.mem_singleton.mp y]
        exact (h.off one h1 u z).2
    · rw [List.mem_singleton.mp z]
      rcases List.mem_append.mp hv with y | y
      · rw [hk.sym one v hone (h.lt2 v y)]
        exact (h.off one h1 v y).2
      · exact absurd ((List.mem_singleton.mp z).trans (List.mem_singleton.mp y).symm) ne
  · have h2 := wOut_step hk h.nd h.lt h1 hmin
    have h3 := h.big
    rw [List.length_append, Int.natCast_add, Int.mul_add]
    show _ ≤ _ + (fct n : Int) * 1
    omega
  · have : (left.filter (fun o => o != one && !k one o)).length < left.length := List.length_filter_lt_length_iff_exists.mpr ⟨one, h1, by simp⟩
    have := h.len
    rw [List.length_append]
    show S.length + 1 + _ ≤ n
    omega
theorem StrInv.done {n : Nat} {k : Rel} {S : List Nat} (h : StrInv n k [] S) {ms : List Int} (hp : ms.Perm (S.map fun (i : Nat) => (i : Int))) (hs : ms.Pairwise (· ≤ ·)) : GoodL n k (ms.map V.int) := by
  obtain ⟨ps, rfl, hp2⟩ := nats_of_perm hp
  refine ⟨ps, ⟨srt_lt hp2 h.nd2 hs, fun i hi => h.lt2 i (hp2.mem_iff.mp hi), fun u hu v hv ne => h.apart u (hp2.mem_iff.mp hu) v (hp2.mem_iff.mp hv) ne, ?_⟩, (natsV_ints ps).symm⟩
  have := h.big
  rw [wOut_nil] at this
  rw [hp2.length_eq]; exact this
theorem first_at {α : Type} [DecidableEq α] {v : α} : ∀ {xs : List α}, v ∈ xs → ∃ j : Nat, xs[j]? = some v ∧ ∀ (m : Nat) (z : α), m < j → xs[m]? = some z → z ≠ v
  | [], h => by simp at h
  | x :: r, h => by
    by_cases c : x = v
    · exact ⟨0, by simp [c], fun m z hm _ => absurd hm (Nat.not_lt_zero m)⟩
    · have hr : v ∈ r := by
        rcases List.mem_cons.mp h with e | e
        · exact absurd e.symm c
        · exact e
      obtain ⟨j, h1, h2⟩ := first_at hr
      refine ⟨j + 1, by simpa using h1, fun m z hm hz => ?_⟩
      cases m with
      | zero =>
        have : x = z := by simpa using hz
        rw [← this]; exact c
      | succ m => exact h2 m z (by omega) (by simpa using hz)
theorem neNat (x y : Nat) : (!decide ((x : Int) = (y : Int))) = (x != y) := by
  by_cases h : x = y
  · subst h; simp
  · have h2 : ¬ (x : Int) = y := fun z => h (Int.ofNat_inj.mp z)
    rw [decide_eq_false h2]; simp [h]

def sp_strangers (K : PySem.W.Frag) (C : Addr) : Sp := fun vs H Q _ => ∃ (a : Addr) (n : Nat) (k : Rel), vs = [.ref a] ∧ WebAt K H a n k ∧ ∀ (ps : List Nat) (x : Addr) (H' : Hp), GoodS n k ps → Ex H H' → AnsNew H H' x C (natsV ps) → Q (.ref x) H'
theorem elp_strangers_of {K : PySem.W.Frag} {σ : St} {H : Hp} {t : TA} {a : Addr} {n : Nat} {k : Rel} {E : XK} (h : EvA t σ H [.ref a]) (hw : WebAt K H a n k) : EvLP (tCall (sp_strangers_of K) [] E t) σ H (GoodL n k) := fun H1 e Q q =>
  h H1 e _ fun H2 e2 => ⟨a, n, k, rfl, hw.ex (e.trans e2), fun xs hG p H3 hp e3 h3 => q p H3 xs hG (fresh_back e2 hp) (e2.trans e3) h3⟩
theorem elp_strangers_ofL {K : PySem.W.Frag} {σ : St} {H : Hp} {te : TE} {n : Nat} {k : Rel} {E : XK} (h : EvL te σ H (webV n k)) (hk : IsW n k) (hn : n ≤ 200) : EvLP (tCall (sp_strangers_of K) [] E (tCons te tNil)) σ H (GoodL n k) := fun H1 e Q q =>
  h H1 e _ fun p H2 hp0 e2 hp => ⟨p, n, k, rfl, WebAt.of hp hk hn, fun xs hG p H3 hp e3 h3 => q p H3 xs hG (fresh_back e2 hp) (e2.trans e3) h3⟩

def sp_friends (K : PySem.W.Frag) (C : Addr) : Sp := fun vs H Q _ => ∃ (a : Addr) (n : Nat) (k : Rel), vs = [.ref a] ∧ WebAt K H a n k ∧ ∀ (ps : List Nat) (x : Addr) (H' : Hp), GoodS n (turn k) ps → Ex H H' → AnsNew H H' x C (natsV ps) → Q (.ref x) H'

def lawNum7 (c a w : Int) : Int := if 10 ^ 18 ≤ c then c / (1 + a % 7) else lawNum c a w
def sp_law_number (K : PySem.W.Frag) : Sp := fun vs H Q _ => ∃ c a w : Int, vs = [.int c, .int a, .int w] ∧ Bt 1100000 c ∧ 0 ≤ a ∧ a < 1000 ∧ RetV (.int (lawNum7 c a w)) H Q
theorem spv_law_number {K : PySem.W.Frag} {H : Hp} {c a w : Int} (h : Bt 1100000 c) (h0 : 0 ≤ a) (h1 : a < 1000) : SpV (sp_law_number K) [.int c, .int a, .int w] H (.int (lawNum7 c a w)) := fun _ _ _ q _ => ⟨c, a, w, rfl, h, h0, h1, q⟩

def sp_law_plain (K : PySem.W.Frag) (d : Nat) : Sp := fun vs H Q _ => ∃ v, vs = [v] ∧ Plain H d v ∧ RetV (.bl true) H Q
theorem spv_law_plain {K : PySem.W.Frag} {d : Nat} {H : Hp} {v : V} (h : Plain H d v) : SpV (sp_law_plain K d) [v] H (.bl true) := fun _ e _ q _ => ⟨v, rfl, h.ex e, q⟩

def sp_law_truths (K : PySem.W.Frag) : Sp := fun vs H Q _ => ∃ (p : Addr) (xs : List V), vs = [.ref p] ∧ H p = some (.lst xs) ∧ xs.length ≤ 1000 ∧ (∀ v ∈ xs, IsB v H) ∧ RetV (.bl true) H Q
theorem spv_law_truths {K : PySem.W.Frag} {H : Hp} {p : Addr} {xs : List V} (h : H p = some (.lst xs)) (h1 : xs.length ≤ 1000) (h2 : ∀ v ∈ xs, IsB v H) : SpV (sp_law_truths K) [.ref p] H (.bl true) := fun _ e _ q _ => ⟨p, xs, rfl, e _ _ h, h1, h2, q⟩

def sp_law_web_right (K : PySem.W.Frag) : Sp := fun vs H Q _ => ∃ (a : Addr) (n : Nat) (k : Rel), vs = [.ref a] ∧ WebAt K H a n k ∧ RetV (.bl true) H Q
theorem spv_law_web_right {K : PySem.W.Frag} {H : Hp} {a : Addr} {n : Nat} {k : Rel} (h : WebAt K H a n k) : SpV (sp_law_web_right K) [.ref a] H (.bl true) := fun _ e _ q _ => ⟨a, n, k, rfl, h.ex e, q⟩
theorem GoodS.all {n : Nat} {k : Rel} {ps : List Nat} (h : GoodS n k ps) : allAs k false ps = true := by
  rw [allAs_iff]
  intro i hi j hj
  refine h.apart _ (getD_mem hi) _ (getD_mem (by omega)) ?_
  have := List.pairwise_iff_getElem.mp h.srt j i (by omega) hi hj
  rw [List.getD_eq_getElem?_getD, List.getD_eq_getElem?_getD, List.getElem?_eq_getElem hi, List.getElem?_eq_getElem (show j < ps.length by omega)]
  show ps[i] ≠ ps[j]
  omega
theorem GoodS.allT {n : Nat} {k : Rel} {ps : List Nat} (h : GoodS n (turn k) ps) : allAs k true ps = true := by
  have h1 := h.all
  rw [allAs_iff] at h1 ⊢
  intro i hi j hj
  have h2 := h1 i hi j hj
  have := List.pairwise_iff_getElem.mp h.srt j i (by omega) hi hj
  rw [turn_ne] at h2
  · simpa using h2
  · rw [List.getD_eq_getElem?_getD, List.getD_eq_getElem?_getD, List.getElem?_eq_getElem hi, List.getElem?_eq_getElem (show j < ps.length by omega)]
    show ps[i] ≠ ps[j]
    omega
theorem rises_nats {n : Nat} {ps : List Nat} (h1 : ps.Pairwise (· < ·)) (h2 : ∀ i ∈ ps, i < n) : areP n (ps.map fun (i : Nat) => (i : Int)) = true := by
  unfold areP
  rw [rises_iff]
  refine ⟨List.pairwise_map.mpr (h1.imp fun h => by omega), fun x hx => ?_⟩
  obtain ⟨i, hi, rfl⟩ := List.mem_map.mp hx
  have := h2 i hi
  omega
theorem GoodS.are {n : Nat} {k : Rel} {ps : List Nat} (h : GoodS n k ps) : areP n (ps.map fun (i : Nat) => (i : Int)) = true := rises_nats h.srt h.lt
theorem nats_back (ps : List Nat) : (ps.map fun (i : Nat) => (i : Int)).map Int.toNat = ps := by
  rw [List.map_map]
  conv => rhs; rw [← List.map_id ps]
  exact List.map_congr_left fun i _ => Int.toNat_natCast i
theorem shows_nats {n : Nat} {k : Rel} {b : Bool} {ps : List Nat} (h1 : areP n (ps.map fun (i : Nat) => (i : Int)) = true) (h2 : allAs k b ps = true) : showsB n k b (ps.map fun (i : Nat) => (i : Int)) = true := by
  unfold showsB
  rw [h1, nats_back, h2]; rfl
theorem goodS_le {n : Nat} {k : Rel} {ps : List Nat} (h : GoodS n k ps) (hn : n ≤ 200) : (ps.map fun (i : Nat) => (i : Int)).length ≤ 1000 := by
  have h1 := rises_len (rises_nats h.srt h.lt) (by decide)
  rcases h1 with h1 | h1
  · rw [List.length_map] at h1 ⊢; omega
  · rw [h1]; decide

def sp_law_are_too_few (K : PySem.W.Frag) : Sp := fun vs H Q _ => ∃ (p : Addr) (n : Nat) (k : Rel) (a b : Nat), vs = [.ref p, .int ((a + 1 : Nat) : Nat), .int ((b + 1 : Nat) : Nat)] ∧ WebAt K H p n k ∧ a ≤ 199 ∧ b ≤ 199 ∧ RetV (.bl (decide (n < ram a b))) H Q
theorem spv_law_are_too_few {K : PySem.W.Frag} {H : Hp} {p : Addr} {n : Nat} {k : Rel} {a b : Nat} (hw : WebAt K H p n k) (h : a ≤ 199) (h2 : b ≤ 199) : SpV (sp_law_are_too_few K) [.ref p, .int ((a + 1 : Nat) : Nat), .int ((b + 1 : Nat) : Nat)] H (.bl (decide (n < ram a b))) := fun _ e _ q _ => ⟨p, n, k, a, b, rfl, hw.ex e, h, h2, q⟩

def sp_law_groups_promises (K : PySem.W.Frag) : Sp := fun vs H Q _ => vs = [] ∧ RetV (.bl true) H Q
theorem spv_law_groups_promises {K : PySem.W.Frag} {H : Hp} : SpV (sp_law_groups_promises K) [] H (.bl true) := fun _ e _ q _ => ⟨rfl, q⟩
def ringS : List Str := ["-x--x", "x-x--", "-x-x-", "--x-x", "x--x-"]
def starS : List Str := ["-xx", "x--", "x--"]
def twoS : List Str := ["-x", "x-"]
def noneK : Rel := fun _ _ => false
theorem ring_web : [V.str "-x--x", V.str "x-x--", V.str "-x-x-", V.str "--x-x", V.str "x--x-"] = webV 5 (litK ringS) := lit_web (ss := ringS) (by decide +kernel)
theorem star_web : [V.str "-xx", V.str "x--", V.str "x--"] = webV 3 (litK starS) := lit_web (ss := starS) (by decide +kernel)
theorem two_web : [V.str "-x", V.str "x-"] = webV 2 (litK twoS) := lit_web (ss := twoS) (by decide +kernel)
theorem ring_w : IsW 5 (litK ringS) := lit_w (ss := ringS) (by decide +kernel)
theorem star_w : IsW 3 (litK starS) := lit_w (ss := starS) (by decide +kernel)
theorem two_w : IsW 2 (litK twoS) := lit_w (ss := twoS) (by decide +kernel)
theorem none_w (n : Nat) : IsW n noneK := ⟨fun _ _ _ _ => rfl, fun _ _ => rfl⟩
theorem full_w (n : Nat) : IsW n fullK := ⟨fun i j _ _ => decide_eq_decide.mpr ⟨fun h z => h z.symm, fun h z => h z.symm⟩, fun i _ => by unfold fullK; simp⟩
theorem flat_one {α : Type} (v : α) : ∀ n : Nat, (List.replicate n [v]).flatten = List.replicate n v
  | 0 => rfl
  | n + 1 => by rw [List.replicate_succ, List.flatten_cons, flat_one v n]; rfl
theorem rep_web (n : Nat) : List.replicate n (V.str (rowS n fun _ => false)) = webV n noneK := by
  unfold webV noneK
  rw [List.map_const', List.length_range]
def RP (n : Nat) (k : Rel) (a b : Nat) : Prop := (fct n : Int) * ((a : Int) - 1) < wSum n k ∧ (fct n : Int) * ((b : Int) - 1) < wSum n (turn k)
instance (n : Nat) (k : Rel) (a b : Nat) : Decidable (RP n k a b) := by unfold RP; infer_instance
theorem prom_ge {n : Nat} {k : Rel} {ps : List Nat} {a : Nat} (h : GoodS n k ps) (ha : (fct n : Int) * ((a : Int) - 1) < wSum n k) : a ≤ ps.length := by
  rcases Nat.lt_or_ge ps.length a with c | c
  · have h1 := h.big
    have h2 : (fct n : Int) * ps.length ≤ (fct n : Int) * ((a : Int) - 1) := Int.mul_le_mul_of_nonneg_left (by omega) (by omega)
    omega
  · exact c
theorem rp_empty : RP 0 noneK 0 0 := by decide +kernel
theorem rp_one : RP 1 noneK 1 1 := by decide +kernel
theorem rp_star : RP 3 (litK starS) 2 2 := by decide +kernel
theorem rp_ring : RP 5 (litK ringS) 2 2 := by decide +kernel
theorem rp_full : RP 6 fullK 1 6 := by decide +kernel
theorem rp_none : RP 6 noneK 6 1 := by decide +kernel
theorem full_kind {c : Bool} {ps : List Nat} (h : GoodF 6 fullK c 3 ps) : c = true := by
  cases c with
  | true => rfl
  | false =>
    have hl := h.len
    match ps, hl with
    | [x, y, z], _ =>
      have h1 := List.pairwise_cons.mp h.srt
      have h2 : x < y := h1.1 y (by simp)
      have h3 := h.cl x (by simp) y (by simp) (by omega)
      unfold fullK at h3
      simp at h3
      omega
theorem none_kind {c : Bool} {ps : List Nat} (h : GoodF 6 noneK c 3 ps) : c = false := by
  cases c with
  | false => rfl
  | true =>
    have hl := h.len
    match ps, hl with
    | [x, y, z], _ =>
      have h1 := List.pairwise_cons.mp h.srt
      have h2 : x < y := h1.1 y (by simp)
      have h3 := h.cl x (by simp) y (by simp) (by omega)
      cases h3
def WP (K : PySem.W.Frag) (x y z : V) (H : Hp) : Prop := ∃ (p : Addr) (n : Nat) (k : Rel) (a b : Nat), x = .ref p ∧ y = .int (a : Nat) ∧ z = .int (b : Nat) ∧ WebAt K H p n k ∧ RP n k a b
theorem wp_kept (K : PySem.W.Frag) (x y z : V) : Kept fun _ H => WP K x y z H := fun _ _ _ e ⟨p, n, k, a, b, h1, h2, h3, h4, h5⟩ => ⟨p, n, k, a, b, h1, h2, h3, h4.ex e, h5⟩
theorem ram_eq1 : [((ram 0 4 : Nat) : Int), (ram 0 0 : Nat), (ram 1 2 : Nat), (ram 2 2 : Nat), (ram 2 3 : Nat), (ram 3 2 : Nat)] = [1, 1, 3, 6, 10, 10] := by decide +kernel
theorem ram_top : ((ram 199 199 : Nat) : Int) = (ram 198 199 : Nat) + (ram 199 198 : Nat) := by
  rw [show (199 : Nat) = 198 + 1 from rfl, ram_succ 198 198]
  simp
theorem fr_empty : frV 0 noneK = ([0, 1] : List Int).map V.int := by decide +kernel
theorem fr_one : frV 1 noneK = ([1, 1] : List Int).map V.int := by decide +kernel
theorem fr_two : frV 2 (litK twoS) = ([1, 1] : List Int).map V.int := by decide +kernel
theorem fr_star : frV 3 (litK starS) = ([4, 3] : List Int).map V.int := by decide +kernel
theorem fr_ring : frV 5 (litK ringS) = ([5, 3] : List Int).map V.int := by decide +kernel
theorem full_len1 : ∀ i, i < 6 → (⟨(List.replicate i 120).toArray⟩ : Str).length + ("-" : Str).length ≤ 10000 := by decide +kernel
theorem full_len2 : ∀ i, i < 6 → ((⟨(List.replicate i 120).toArray⟩ : Str) ++ ("-" : Str)).length + (⟨(List.replicate (5 - i) 120).toArray⟩ : Str).length ≤ 10000 := by decide +kernel
theorem one_web7 : [V.str "-"] = webV 1 noneK := one_web

def sp_law_promises_right (K : PySem.W.Frag) : Sp := fun vs H Q _ => vs = [] ∧ RetV (.bl true) H Q
theorem spv_law_promises_right {K : PySem.W.Frag} {H : Hp} : SpV (sp_law_promises_right K) [] H (.bl true) := fun _ e _ q _ => ⟨rfl, q⟩
theorem two_turn : [V.str "--", V.str "--"] = webV 2 (turn (litK twoS)) := by
  have e : (["--", "--"] : List Str) = webL 2 (turn (litK twoS)) := by decide +kernel
  rw [webV_eq, ← e]; rfl
theorem ring_turn : webV 5 (turn (turn (litK ringS))) = webV 5 (litK ringS) := by
  have e : webL 5 (turn (turn (litK ringS))) = webL 5 (litK ringS) := by decide +kernel
  rw [webV_eq, webV_eq, e]
theorem one_turn : webV 1 (turn noneK) = webV 1 noneK := by
  have e : webL 1 (turn noneK) = webL 1 noneK := by decide +kernel
  rw [webV_eq, webV_eq, e]
theorem ring_deg : degV 5 (litK ringS) = ([2, 2, 2, 2, 2] : List Int).map V.int := by
  have e : (List.range 5).map (fun i => deg 5 (litK ringS) i) = [2, 2, 2, 2, 2] := by decide +kernel
  rw [← e, List.map_map]; rfl
theorem three_web : List.replicate 3 (V.str "---") = webV 3 noneK := by
  have e : List.replicate 3 ("---" : Str) = webL 3 noneK := by decide +kernel
  rw [webV_eq, ← e]; rfl
theorem al_empty : alikeZ 0 noneK = 0 := by decide +kernel
theorem al_ring : alikeZ 5 (litK ringS) = 0 := by decide +kernel
theorem al_three : alikeZ 3 noneK = 1 := by decide +kernel
theorem an_empty : alikeN 0 noneK = 0 := by decide +kernel
theorem an_two : alikeN 2 (litK twoS) = 0 := by decide +kernel
theorem an_ring : alikeN 5 (litK ringS) = 0 := by decide +kernel
theorem few_ten : (List.range 10).map (fun i => fewestZ (i : Nat)) = [0, 0, 0, 0, 0, 0, 2, 4, 8, 12] := by decide +kernel
def halfZ : Int := 500000000000000000000000000000
theorem half_eq : (5 : Int) * 10 ^ (29 : Int).toNat = halfZ := by decide +kernel
theorem half_few : fewestZ (2 * halfZ) = halfZ * (halfZ - 1) * (halfZ - 2) / 3 := by decide +kernel
def sizesL : List Int := [0, 1, 5, 6, 7, 8, 9, 10, 11, 40, 41, 43]
theorem sizes_at : ∀ i, i < 12 → ∃ n : Nat, n ≤ 200 ∧ (sizesL.map V.int).getD i .non = V.int (n : Nat) := by
  intro i hi
  have : ∀ i, i < 12 → 0 ≤ sizesL.getD i 0 ∧ sizesL.getD i 0 ≤ 200 := by decide +kernel
  obtain ⟨h1, h2⟩ := this i hi
  refine ⟨(sizesL.getD i 0).toNat, by omega, ?_⟩
  rw [Int.toNat_of_nonneg h1]
  have hl : i < sizesL.length := hi
  rw [List.getD_eq_getElem?_getD, List.getD_eq_getElem?_getD, List.getElem?_map, List.getElem?_eq_getElem hl]
  rfl
/-- a case: people, a web, what is due -/
def CP (K : PySem.W.Frag) (x y z u : V) (H : Hp) : Prop := ∃ (p1 : Addr) (ns : List Int) (p2 : Addr) (n : Nat) (k : Rel), x = .ref p1 ∧ H p1 = some (.lst (ns.map V.int)) ∧ y = .ref p2 ∧ WebAt K H p2 n k ∧ z = .bl (showsB n k true ns) ∧ u = .bl (showsB n k false ns)
theorem cp_kept (K : PySem.W.Frag) (x y z u : V) : Kept fun _ H => CP K x y z u H := fun _ _ _ e ⟨p1, ns, p2, n, k, h1, h2, h3, h4, h5⟩ => ⟨p1, ns, p2, n, k, h1, e _ _ h2, h3, h4.ex e, h5⟩
theorem evx_case {K : PySem.W.Frag} {σ : St} {H H0 : Hp} {ta : TE} {j : Nat} {p : Addr} {n : Nat} {k : Rel} {a b : Bool} (ns : List Int) (h : EvL ta σ H (ns.map V.int)) (hj : σ[j]? = some (some (.ref p))) (hw : WebAt K H0 p n k) (e0 : Ex H0 H) (ha : showsB n k true ns = a) (hb : showsB n k false ns = b) : EvX (tTup (tCons ta (tCons (tVar j) (tCons (tC (.bl a)) (tCons (tC (.bl b)) tNil))))) σ H (T4 (CP K)) := by
  subst ha hb
  exact evx_tup4 (cp_kept K) (evx_el h fun q H1 e hq => ⟨q, ns, p, n, k, rfl, hq, rfl, hw.ex (e0.trans e), rfl, rfl⟩) (fun _ _ => ev_var hj) (fun _ _ => ev_c) (fun _ _ => ev_c)
theorem three_shows {n : Nat} {k : Rel} {c : Bool} {f m l : Nat} (h1 : f < m) (h2 : m < l) (h3 : l < n) (h : allAs k c [f, m, l] = true) : showsB n k c (([f, m, l]).map fun (i : Nat) => (i : Int)) = true :=
  shows_nats (rises_nats (by simp; omega) (fun i hi => by simp at hi; omega)) h

def sp_law (K : PySem.W.Frag) : Sp := fun vs H Q _ => ∃ (a : Addr) (ns : List Int), vs = [.ref a] ∧ SqL K H a (ns.map V.int) ∧ ns.length ≤ 63 ∧ (∀ z ∈ ns, Bt 1048576 z) ∧ RetV (.bl true) H Q
theorem ok_is_number {P : Program} {w : World} {K : PySem.W.Frag} {mg : Str → Option Value} {base : Heap} {cAnswer cKnown cUnknown cWebError cTooFew : Addr} (T : Txt K mg cAnswer cKnown cUnknown cWebError cTooFew) (D : At K mg "is_number" s_is_number ["thing"])  : Has P w K mg base CX0 1 "is_number" ["thing"] (sp_is_number K) := by
  refine has_of D sc_is_number (fun vs H Q E h => ?_) (fun f cdv A outer s H vs Q E hr h => ?_)
  · obtain ⟨i, rfl, _⟩ := h
    rfl
  · obtain ⟨i, rfl, hq⟩ := h
    refine ⟨_, (pss_one (ps_ret (pe_and (pe_callB (cr_isiK K) (by rfl) T.n_isinstance (by decide +kernel) (pa_cons (pv 0) (pa_cons (bty "int" T.n_int (by decide +kernel)) pa_nil))) (pe_one (pe_not (pe_callB (cr_isiK K) (by rfl) T.n_isinstance (by decide +kernel) (pa_cons (pv 0) (pa_cons (bty "bool" T.n_bool (by decide +kernel)) pa_nil)))))))), ?_⟩
    exact s_ret (ev_andV (ev_isInt (ev_var rfl)) fun _ => ev_notV (ev_isBoolI (ev_var rfl))) fun H1 e1 => hq H1 e1
theorem ok_asked_web {P : Program} {w : World} {K : PySem.W.Frag} {mg : Str → Option Value} {base : Heap} {cAnswer cKnown cUnknown cWebError cTooFew : Addr} (T : Txt K mg cAnswer cKnown cUnknown cWebError cTooFew) (D : At K mg "asked_web" s_asked_web ["web"])  : Has P w K mg base CX0 1 "asked_web" ["web"] (sp_asked_web K) := by
  refine has_of D sc_asked_web (fun vs H Q E h => ?_) (fun f cdv A outer s H vs Q E hr h => ?_)
  · obtain ⟨a, n, k, rfl, _⟩ := h
    rfl
  · obtain ⟨a, n, k, rfl, hw, hq⟩ := h
    have hn := hw.le
    refine ⟨_, (pss_cons (ps_if (PW.pt (pw_or (pt_not (pt_val (pe_callB (cr_isiK K) (by rfl) T.n_isinstance (by decide +kernel) (pa_cons (pv 0) (pa_cons (bty "list" T.n_list (by decide +kernel)) pa_nil))))) (pw_or (pt_cmpR op_gt (pe_callB (cr_lenK K) (by rfl) T.n_len (by decide +kernel) (pa_cons (pv 0) pa_nil)) (gconst T.c_MOST) (nomark _)) (pw_or1 (pt_not (pt_val (pe_callB (cr_allK K rfl) (by rfl) T.n_all (by decide +kernel) (pa_cons (pe_lc (own := [("row", 2)]) rfl sc_asked_web.nd (pi_listK K (pv 0)) (blkOk_by (by kernel_rfl)) (fun _ _ _ _ _ => (nm 2 sc_asked_web.nd)) (fun _ _ _ _ _ => pts_nil) (fun _ _ _ _ _ => (pe_callB (cr_isiK K) (by rfl) T.n_isinstance (by decide +kernel) (pa_cons (pv 2) (pa_cons (bty "str" T.n_str (by decide +kernel)) pa_nil))))) pa_nil)))))))) (pss_one ps_never) pss_nil)
      (pss_cons (ps_for PassesOwn.never rfl (pi_enumK K T.n_enumerate (pa_cons (pv 0) pa_nil)) (pg_tupK (n := 2) K rfl (pgs_cons (nm 1 sc_asked_web.nd) (pgs_cons (nm 2 sc_asked_web.nd) pgs_nil))) (pss_one (ps_if (PW.pt (pw_or (pt_cmpR op_ne (pe_callB cr_lenZ (by rfl) T.n_len (by decide +kernel) (pa_cons (pv 2) pa_nil)) (pe_callB (cr_lenK K) (by rfl) T.n_len (by decide +kernel) (pa_cons (pv 0) pa_nil)) (nomark _)) (pw_or (pt_cmpR op_ne (bmK K PySem.F.plainAttrs_str PySem.F.slot_str_strip PySem.F.type_str_strip mt_stripC (pv 2) (pa_cons pe_str pa_nil)) pe_str (nomark _)) (pw_or1 (pt_cmpR op_ne (pe_ix ix_str (pv 2) (pv 1) (fun _ _ => rfl)) pe_str (nomark _)))))) (pss_one ps_never) pss_nil)))
      (pss_one (ps_for PassesOwn.never rfl (pi_range1 rfl T.n_range (pa_cons (pe_callB (cr_lenK K) (by rfl) T.n_len (by decide +kernel) (pa_cons (pv 0) pa_nil)) pa_nil)) (nm 1 sc_asked_web.nd) (pss_one (ps_if (pt_val (pe_callB (cr_anyK K rfl) (by rfl) T.n_any (by decide +kernel) (pa_cons (pe_lc (own := [("other", 3)]) rfl sc_asked_web.nd (pi_range1 rfl T.n_range (pa_cons (pv 1) pa_nil)) (blkOk_by (by kernel_rfl)) (fun _ _ _ _ _ => (nm 3 sc_asked_web.nd)) (fun _ _ _ _ _ => pts_nil) (fun _ _ _ _ _ => (pe_cmpR op_ne (pe_ix ix_str (pe_ix (ix_listK K) (pv 0) (pv 1) (fun _ _ => rfl)) (pv 3) (fun _ _ => rfl)) (pe_ix ix_str (pe_ix (ix_listK K) (pv 0) (pv 3) (fun _ _ => rfl)) (pv 1) (fun _ _ => rfl)) (nomark _)))) pa_nil))) (pss_one ps_never) pss_nil)))))), ?_⟩
    refine q_when (b := false) (et_is (et_or (et_not (et_B (ev_isList (ev_var rfl) hw.seq (Ex.refl _)))) fun _ => et_or (et_test (ev_op (ev_lenW hw.seq (Ex.refl _) (ev_var rfl)) ev_c rv_I0)) fun _ =>
      et_not (et_B (ev_allR (el_map (fun i => V.bl true) (ew_web hw.seq (Ex.refl _) (ev_var rfl)) (by omega) (fun _ => rfl) fun i H1 e1 hi => ev_isStr (ev_var rfl))))) ?_) (bl_false rfl) fun _ H1 e1 => ?_
    · simp; omega
    have w1 := hw.ex e1
    refine q_for2 (ew_enumW w1.seq (Ex.refl _) (ea_cons (ev_var rfl) ea_nil)) (fun i σ' H' => Ex H1 H' ∧ ∃ u v, σ' = [some (.ref a), u, v, none]) (fun H2 e2 => ⟨e2, _, _, rfl⟩) (fun i σ' H' _ p => p.1) (fun i σ' H' T hi p hT => ?_) fun σ' H' p => ?_
    · obtain ⟨e2, u, v, rfl⟩ := p
      have e3 := e2.trans (Ex.new (o := .tup [V.int (i : Nat), V.str (rowS n (k i))]) hT)
      refine s_when (b := false) (et_is (et_or (et_test (ev_neI (ev_lenRow (ev_var rfl) hn) (ev_lenW w1.seq e3 (ev_var rfl)))) fun _ => et_or (et_test (ev_op (ev_stripRow (ev_var rfl) ev_c hn) ev_c (rv_ne rfl))) fun _ =>
        et_test (ev_neD (ev_op (ev_var rfl) (ev_var rfl) (rv_row hi hn)) ev_c)) ?_) (bl_false rfl) fun _ H3 e4 => ⟨e3.trans e4, _, _, rfl⟩
      simp [hw.w.irr i hi]
    obtain ⟨e2, u, v, rfl⟩ := p
    refine s_for (Hw := H1) (ew_rng1 (ea_cons (ev_lenW w1.seq e2 (ev_var rfl)) ea_nil) (by omega)) (fun i σ' H' => Ex H1 H' ∧ ∃ u, σ' = [some (.ref a), u, v, none]) (fun H2 e3 => ⟨e2.trans e3, _, rfl⟩) (fun i σ' H' _ p => p.1) (fun i σ' H' hi p => ?_) fun σ' H' p => ?_
    · obtain ⟨e3, u, rfl⟩ := p
      refine s_when (b := false) (et_is (et_B (ev_anyR (el_map (fun j => V.bl (k i j != k j i)) (ew_rng1 (ea_cons (ev_var rfl) ea_nil) (by omega)) (by omega) (fun _ => rfl) fun j H4 e4 hj =>
        ev_neSg (ev_cell w1.seq (e3.trans e4) hn (ev_var rfl) (ev_var rfl) (ev_var rfl) hi (by omega)) (ev_cell w1.seq (e3.trans e4) hn (ev_var rfl) (ev_var rfl) (ev_var rfl) (by omega) hi)))) ?_) (bl_false rfl) fun _ H4 e4 => ⟨e3.trans e4, _, rfl⟩
      rw [List.any_eq_false]
      intro j hj
      rw [hw.w.sym i j hi (by have := List.mem_range.mp hj; omega)]
      simp
    exact hq H' (e1.trans p.1)
theorem ok_ties {P : Program} {w : World} {K : PySem.W.Frag} {mg : Str → Option Value} {base : Heap} {cAnswer cKnown cUnknown cWebError cTooFew : Addr} (T : Txt K mg cAnswer cKnown cUnknown cWebError cTooFew) (D : At K mg "ties" s_ties ["web"]) (h_asked_web : Has P w K mg base CX0 1 "asked_web" ["web"] (sp_asked_web K)) : Has P w K mg base CX0 2 "ties" ["web"] (sp_ties K) := by
  refine has_of D sc_ties (fun vs H Q E h => ?_) (fun f cdv A outer s H vs Q E hr h => ?_)
  · obtain ⟨a, n, k, rfl, _⟩ := h
    rfl
  · obtain ⟨a, n, k, rfl, hw, hq⟩ := h
    have hn := hw.le
    refine ⟨_, (pss_cons (ps_expr (hcall h_asked_web (hr.mono (by decide)) (pa_cons (pv 0) pa_nil)))
      (pss_one (ps_ret (pe_lc (own := [("row", 1)]) rfl sc_ties.nd (pi_listK K (pv 0)) (blkOk_by (by kernel_rfl)) (fun _ _ _ _ _ => (nm 1 sc_ties.nd)) (fun _ _ _ _ _ => pts_nil) (fun _ _ _ _ _ => (bmK K PySem.F.plainAttrs_str PySem.F.slot_str_count PySem.F.type_str_count mt_cnt (pv 1) (pa_cons pe_str pa_nil))))))), ?_⟩
    refine q_drop (ev_hc (ea_cons (ev_var rfl) ea_nil) (spv_asked_web hw)) fun H1 e1 => ?_
    exact s_retL (el_map (fun i => V.int (deg n k i)) (ew_web (ex_l e1 hw.seq) (Ex.refl _) (ev_var rfl)) (by omega) (fun _ => rfl) fun i H3 e3 hi => ev_cntRow (ev_var rfl) ev_c) fun p H9 hp e9 hp9 => hq p H9 (fresh_back e1 hp) (e1.trans e9) hp9
theorem ok_turned_of {P : Program} {w : World} {K : PySem.W.Frag} {mg : Str → Option Value} {base : Heap} {cAnswer cKnown cUnknown cWebError cTooFew : Addr} (T : Txt K mg cAnswer cKnown cUnknown cWebError cTooFew) (D : At K mg "turned_of" s_turned_of ["web"])  : Has P w K mg base CX0 1 "turned_of" ["web"] (sp_turned_of K) := by
  refine has_of D sc_turned_of (fun vs H Q E h => ?_) (fun f cdv A outer s H vs Q E hr h => ?_)
  · obtain ⟨a, n, k, rfl, _⟩ := h
    rfl
  · obtain ⟨a, n, k, rfl, hw, hq⟩ := h
    have hn := hw.le
    refine ⟨_, (pss_cons (st_ 1 sc_turned_of.nd (pe_lst pa_nil))
      (pss_cons (ps_for PassesOwn.never rfl (pi_enumK K T.n_enumerate (pa_cons (pv 0) pa_nil)) (pg_tupK (n := 2) K rfl (pgs_cons (nm 2 sc_turned_of.nd) (pgs_cons (nm 3 sc_turned_of.nd) pgs_nil))) (pss_cons (ps_setLc (i := 4) (own := [("other", 5), ("sign", 6)]) rfl sc_turned_of.nd rfl rfl (sw_true rfl rfl rfl (by decide +kernel)) (pi_enumS (by rfl) T.n_enumerate (pa_cons (pv 3) pa_nil)) (blkOk_by (by kernel_rfl)) (fun _ _ _ _ _ => (pg_tupK (n := 2) K rfl (pgs_cons (nm 5 sc_turned_of.nd) (pgs_cons (nm 6 sc_turned_of.nd) pgs_nil)))) (fun _ _ _ _ _ => pts_nil) (fun _ _ _ _ _ => (pe_ifExp (PW.pt (pw_or (pt_cmpR op_eq (pv 6) pe_str (nomark _)) (pw_or1 (pt_cmpR op_eq (pv 5) (pv 2) (nomark _))))) pe_str pe_str)))
      (pss_one (ps_expr (bmK K PySem.F.plainAttrs_list PySem.F.slot_list_append PySem.F.type_list_append mt_append (pv 1) (pa_cons (bmK K PySem.F.plainAttrs_str PySem.F.slot_str_join PySem.F.type_str_join (mt_joinK K) pe_str (pa_cons (pv 4) pa_nil)) pa_nil))))))
      (pss_one (ps_ret (pv 1))))), ?_⟩
    refine q_asgL (el_lst ea_nil (by decide)) fun l H1 hl0 e1 hl => ?_
    refine q_for2 (Hw := H) (ew_enumW hw.seq e1 (ea_cons (ev_var rfl) ea_nil)) (fun i σ' H' => Ex H H' ∧ H' l = some (.lst ((List.range i).map fun a => V.str (rowS n (turn k a)))) ∧ ∃ u v w, σ' = [some (.ref a), some (.ref l), u, v, w, none, none]) (fun H2 e2 => ⟨e1.trans e2, e2 _ _ hl, _, _, _, rfl⟩) (fun i σ' H' _ p => p.1) (fun i σ' H' T hi p hT => ?_) fun σ' H' p => ?_
    · obtain ⟨ex, hl, u, v, w, rfl⟩ := p
      have eT := Ex.new (o := .tup [V.int (i : Nat), V.str (rowS n (k i))]) hT
      refine q_asgL (el_map2 (fun j => V.str (sgS (turn k i j))) (ew_enumRow (ea_cons (ev_var rfl) ea_nil)) (by omega) (fun _ _ => rfl) fun j H3 e3 hj => ev_ifS' (b := k i j || decide (j = i)) (et_or (et_test (ev_eqX (ev_var rfl) ev_c)) fun _ => et_is (et_test (ev_eqI (ev_var rfl) (ev_var rfl))) (by rw [← dec_int']; exact decJ i j))) fun p H4 hp e4 hp4 => ?_
      refine s_app (xs := (List.range i).map fun a => V.str (rowS n (turn k a))) (e4 _ _ (eT _ _ hl)) (ev_var rfl) (ev_joinRowL (f := turn k i) ev_c (ev_var rfl) (SqL.of hp4) (Ex.refl _) hn) (by simp; omega) fun H5 e5 => ?_
      refine ⟨Ex.mut (((ex.trans eT).trans e4).trans e5) hl0, ?_, _, _, _, rfl⟩
      rw [upd_same, webV_part]
    obtain ⟨ex, hl, u, v, w, rfl⟩ := p
    exact s_ret (ev_var rfl) fun H9 e9 => hq l H9 hl0 (ex.trans e9) (e9 _ _ hl)
theorem ok_turned {P : Program} {w : World} {K : PySem.W.Frag} {mg : Str → Option Value} {base : Heap} {cAnswer cKnown cUnknown cWebError cTooFew : Addr} (T : Txt K mg cAnswer cKnown cUnknown cWebError cTooFew) (D : At K mg "turned" s_turned ["web"]) (h_asked_web : Has P w K mg base CX0 1 "asked_web" ["web"] (sp_asked_web K)) (h_turned_of : Has P w K mg base CX0 1 "turned_of" ["web"] (sp_turned_of K)) : Has P w K mg base CX0 2 "turned" ["web"] (sp_turned K) := by
  refine has_of D sc_turned (fun vs H Q E h => ?_) (fun f cdv A outer s H vs Q E hr h => ?_)
  · obtain ⟨a, n, k, rfl, _⟩ := h
    rfl
  · obtain ⟨a, n, k, rfl, hw, hq⟩ := h
    refine ⟨_, (pss_cons (ps_expr (hcall h_asked_web (hr.mono (by decide)) (pa_cons (pv 0) pa_nil)))
      (pss_one (ps_ret (hcall h_turned_of (hr.mono (by decide)) (pa_cons (pv 0) pa_nil))))), ?_⟩
    refine q_drop (ev_hc (ea_cons (ev_var rfl) ea_nil) (spv_asked_web hw)) fun H1 e1 => ?_
    exact s_retL (el_hc (ea_cons (ev_var rfl) ea_nil) (spl_turned_of (hw.ex e1))) fun p H9 hp e9 hp9 => hq p H9 (fresh_back e1 hp) (e1.trans e9) hp9
theorem ok_all_as {P : Program} {w : World} {K : PySem.W.Frag} {mg : Str → Option Value} {base : Heap} {cAnswer cKnown cUnknown cWebError cTooFew : Addr} (T : Txt K mg cAnswer cKnown cUnknown cWebError cTooFew) (D : At K mg "all_as" s_all_as ["web", "people", "sign"])  : Has P w K mg base CX0 1 "all_as" ["web", "people", "sign"] (sp_all_as K) := by
  refine has_of D sc_all_as (fun vs H Q E h => ?_) (fun f cdv A outer s H vs Q E hr h => ?_)
  · obtain ⟨a, p, n, k, b, ps, rfl, _⟩ := h
    rfl
  · obtain ⟨a, p, n, k, b, ps, rfl, hw, hp, hb, hl, hq⟩ := h
    have hn := hw.le
    refine ⟨_, (pss_cons (ps_for PassesOwn.never rfl (pi_enumK K T.n_enumerate (pa_cons (pv 1) pa_nil)) (pg_tupK (n := 2) K rfl (pgs_cons (nm 3 sc_all_as.nd) (pgs_cons (nm 4 sc_all_as.nd) pgs_nil))) (pss_one (ps_if (pt_val (pe_callB (cr_anyK K rfl) (by rfl) T.n_any (by decide +kernel) (pa_cons (pe_lc (own := [("other", 5)]) rfl sc_all_as.nd (pi_listK K (pe_slice (sl_listK K) (pv 1) po_none (po_some (pv 3)))) (blkOk_by (by kernel_rfl)) (fun _ _ _ _ _ => (nm 5 sc_all_as.nd)) (fun _ _ _ _ _ => pts_nil) (fun _ _ _ _ _ => (pe_cmpR op_ne (pe_ix ix_str (pe_ix (ix_listK K) (pv 0) (pv 4) (fun _ _ => rfl)) (pv 5) (fun _ _ => rfl)) (pv 2) (nomark _)))) pa_nil))) (pss_one (ps_ret pe_bl)) pss_nil)))
      (pss_one (ps_ret pe_bl))), ?_⟩
    refine q_for2 (Hw := H) (ew_enum (ea_cons (ev_var rfl) ea_nil) hp (Ex.refl _)) (fun i σ' H' => Ex H H' ∧ (∀ i', i' < i → (List.range i').all (fun j => k (ps.getD i' 0) (ps.getD j 0) == b) = true) ∧ ∃ u v, σ' = [some (.ref a), some (.ref p), some (.str (sgS b)), u, v, none]) (fun H2 e2 => ⟨e2, fun _ h => absurd h (Nat.not_lt_zero _), _, _, rfl⟩) (fun i σ' H' _ p => p.1) (fun i σ' H' T hi q hT => ?_) fun σ' H' q => ?_
    · obtain ⟨ex, hall, u, v, rfl⟩ := q
      rw [natsV_len] at hi
      rw [natsV_at hi]
      have eT := Ex.new (o := .tup [V.int (i : Nat), V.int (ps.getD i 0 : Nat)]) hT
      have e3 := ex.trans eT
      refine s_when (b := !((List.range i).all fun j => k (ps.getD i 0) (ps.getD j 0) == b)) (et_is (et_B (ev_anyR (el_mapN (n := i) (it := fun j => V.int (ps.getD j 0 : Nat)) (fun j => V.bl (k (ps.getD i 0) (ps.getD j 0) != b)) ((ewn_list (EvQ.of_el (el_is (el_slQ (EvQ.of_ev (ev_var rfl) hp e3) eo_none (eo_some (ev_var rfl))) (cut_take _ i)))).of_eq (by rw [List.length_take, natsV_len]; omega) fun j hj => ?_) (by omega) (fun _ => rfl) fun j H4 e4 hj => ?_))) ?_) (fun hf H4 e4 => ?_) fun hf H4 e4 => ?_
      · rw [List.length_take, natsV_len] at hj
        rw [take_at (by omega), natsV_at (by omega)]
      · exact ev_neSg (ev_cell hw.seq (e3.trans e4) hn (ev_var rfl) (ev_var rfl) (ev_var rfl) (hb _ (getD_mem hi)) (hb _ (getD_mem (by omega)))) (ev_var rfl)
      · rw [List.not_all_eq_any_not]; rfl
      · refine s_ret ev_c fun H5 e5 => ?_
        have : allAs k b ps = false := by
          unfold allAs
          rw [List.all_eq_false]
          exact ⟨i, List.mem_range.mpr hi, by simpa using hf⟩
        rw [this] at hq
        exact hq H5 ((e3.trans e4).trans e5)
      · refine ⟨e3.trans e4, fun i' hi' => ?_, _, _, rfl⟩
        by_cases c : i' < i
        · exact hall i' c
        · have : i' = i := by omega
          subst this
          simpa using hf
    obtain ⟨ex, hall, u, v, rfl⟩ := q
    rw [natsV_len] at hall
    have : allAs k b ps = true := by
      unfold allAs
      rw [List.all_eq_true]
      exact fun i hi => hall i (List.mem_range.mp hi)
    rw [this] at hq
    exact s_ret ev_c fun H5 e5 => hq H5 (ex.trans e5)
theorem ok_are_people {P : Program} {w : World} {K : PySem.W.Frag} {mg : Str → Option Value} {base : Heap} {cAnswer cKnown cUnknown cWebError cTooFew : Addr} (T : Txt K mg cAnswer cKnown cUnknown cWebError cTooFew) (D : At K mg "are_people" s_are_people ["people", "web"])  : Has P w K mg base CX0 1 "are_people" ["people", "web"] (sp_are_people K) := by
  refine has_of D sc_are_people (fun vs H Q E h => ?_) (fun f cdv A outer s H vs Q E hr h => ?_)
  · obtain ⟨a, p, n, k, ns, rfl, _⟩ := h
    rfl
  · obtain ⟨a, p, n, k, ns, rfl, hw, hp, hq⟩ := h
    refine ⟨_, (pss_cons (st_ 2 sc_are_people.nd (pe_un un_neg pe_int))
      (pss_cons (ps_for PassesOwn.never rfl (pi_listK K (pv 0)) (nm 3 sc_are_people.nd) (pss_cons (ps_if (pt_not (pt_chain op_lt op_lt (pv 2) (pv 3) (pe_callB (cr_lenK K) (by rfl) T.n_len (by decide +kernel) (pa_cons (pv 1) pa_nil)))) (pss_one (ps_ret pe_bl)) pss_nil)
      (pss_one (st_ 2 sc_are_people.nd (pv 3)))))
      (pss_one (ps_ret pe_bl)))), ?_⟩
    refine q_asg (ev_un ev_c ru_neg) fun H1 e1 => ?_
    refine q_for (Hw := H) (ew_list (ev_var rfl) hp e1) (fun i σ' H' => Ex H H' ∧ ∃ last u, areP n ns = rises n last (ns.drop i) ∧ σ' = [some (.ref p), some (.ref a), some (.int last), u]) (fun H2 e2 => ⟨e1.trans e2, _, _, rfl, rfl⟩) (fun i σ' H' _ p => p.1) (fun i σ' H' hi q => ?_) fun σ' H' q => ?_
    · obtain ⟨ex, last, u, hr2, rfl⟩ := q
      rw [List.length_map] at hi
      have hx : ns[i]? = some ns[i] := List.getElem?_eq_getElem hi
      rw [getD_eq (xs := ns.map V.int) (v := V.int ns[i]) (by rw [List.getElem?_map, hx]; rfl)]
      have hd : rises n last (ns.drop i) = (decide (last < ns[i]) && decide (ns[i] < n) && rises n ns[i] (ns.drop (i + 1))) := by
        rw [List.drop_eq_getElem_cons hi]; rfl
      rw [hd] at hr2
      refine q_when (b := !(decide (last < ns[i]) && decide (ns[i] < (n : Int)))) (et_not (et_test (ev_chain (ev_var rfl) (ev_var rfl) (ev_lenW hw.seq ex (ev_var rfl))))) (fun hf H4 e4 => ?_) fun hf H4 e4 => ?_
      · refine s_ret ev_c fun H5 e5 => ?_
        have hf' : (decide (last < ns[i]) && decide (ns[i] < (n : Int))) = false := by rw [Bool.not_eq_true'] at hf; exact hf
        rw [hf', Bool.false_and] at hr2
        rw [hr2] at hq
        exact hq H5 ((ex.trans e4).trans e5)
      · have hf' : (decide (last < ns[i]) && decide (ns[i] < (n : Int))) = true := by rw [Bool.not_eq_false'] at hf; exact hf
        rw [hf', Bool.true_and] at hr2
        exact s_asg (ev_var rfl) fun H5 e5 => ⟨(ex.trans e4).trans e5, _, _, hr2, rfl⟩
    obtain ⟨ex, last, u, hr2, rfl⟩ := q
    rw [List.length_map, List.drop_length] at hr2
    rw [hr2] at hq
    exact s_ret ev_c fun H5 e5 => hq H5 (ex.trans e5)
theorem ok_Known___init__ {P : Program} {w : World} {K : PySem.W.Frag} {mg : Str → Option Value} {base : Heap} {cAnswer cKnown cUnknown cWebError cTooFew : Addr} (T : Txt K mg cAnswer cKnown cUnknown cWebError cTooFew) (D : AtMk K mg "Known" cKnown "Known.__init__" s_Known___init__ ["self", "people"])  : HasMk P w K mg base CX0 1 "Known" cKnown ["self", "people"] (sp_Known___init__ K cKnown) := by
  refine hasMk_of D sc_Known___init__ (fun vs H Q E h => ?_) (fun f cdv A outer s H vs Q E hr h => ?_)
  · obtain ⟨x, dx, p, ns, rfl, _⟩ := h
    rfl
  · obtain ⟨x, dx, p, ns, rfl, hx, hp, hq⟩ := h
    refine ⟨_, (pss_one (ps_fld (pv 0) (pe_callTy (cr_listK K) (by rfl) T.n_list (by decide +kernel) (pa_cons (pv 1) pa_nil)) rfl)), ?_⟩
    refine ⟨_, rfl, p, ns, rfl, Or.inl hp, fun l hl => ?_⟩
    have nx : x ≠ l := fun z => by rw [z, hl] at hx; cases hx
    exact ⟨_, rfl, x, cKnown, dx, [], rfl, (by rw [upd_ne nx]; exact hx), T.o_Known.cl, T.o_Known.na, (by show 0 < 1000; decide), hq l hl⟩
theorem ok_Known_shows {P : Program} {w : World} {K : PySem.W.Frag} {mg : Str → Option Value} {base : Heap} {cAnswer cKnown cUnknown cWebError cTooFew : Addr} (T : Txt K mg cAnswer cKnown cUnknown cWebError cTooFew) (D : AtM K cKnown "shows" "Known.shows" s_Known_shows ["self", "web"]) (h_are_people : Has P w K mg base CX0 1 "are_people" ["people", "web"] (sp_are_people K)) (h_all_as : Has P w K mg base CX0 1 "all_as" ["web", "people", "sign"] (sp_all_as K)) : HasM P w K mg base CX0 2 cKnown "shows" ["self", "web"] (sp_Known_shows K cKnown) := by
  refine hasM_of D sc_Known_shows (fun vs H Q E h => ?_) (fun f cdv A outer s H vs Q E hr h => ?_)
  · obtain ⟨x, a, n, k, ns, rfl, _⟩ := h
    rfl
  · obtain ⟨x, a, n, k, ns, rfl, ⟨dx, l, hx, hl⟩, hw, hq⟩ := h
    refine ⟨_, (pss_one (ps_ret (pe_and (hcall h_are_people (hr.mono (by decide)) (pa_cons (fldK K (pv 0)) (pa_cons (pv 1) pa_nil))) (pe_one (hcall h_all_as (hr.mono (by decide)) (pa_cons (pv 1) (pa_cons (fldK K (pv 0)) (pa_cons pe_str pa_nil)))))))), ?_⟩
    refine s_ret (ev_andV (ev_hc (ea_cons (ev_fld (ev_var rfl) T.o_Known hx (Ex.refl _)) (ea_cons (ev_var rfl) ea_nil)) (spv_are_people hw (SqL.of hl))) fun hb => ?_) fun H3 e3 => hq H3 e3
    obtain ⟨ps, hps, hlt⟩ := rises_nat hb
    have e1 : ns.map Int.toNat = ps := by
      rw [hps, List.map_map]
      conv => rhs; rw [← List.map_id ps]
      exact List.map_congr_left fun i _ => Int.toNat_natCast i
    have e2 : ns.map V.int = natsV ps := by rw [hps, natsV_ints]
    have hlen : ps.length ≤ 1000 := by
      have h1 := rises_len hb (by decide)
      have h2 := hw.le
      rw [hps] at h1
      rcases h1 with h1 | h1
      · rw [List.length_map] at h1; omega
      · have : ps = [] := by simpa using h1
        rw [this]; decide
    rw [e1]
    rw [e2] at hl
    exact ev_hc (ea_cons (ev_var rfl) (ea_cons (ev_fld (ev_var rfl) T.o_Known hx (Ex.refl _)) (ea_cons (ev_is ev_c (by first | exact congrArg V.str sgS_x.symm | exact congrArg V.str sgS_d.symm)) ea_nil))) (spv_all_as hw (SqL.of hl) hlt hlen)
theorem ok_Unknown___init__ {P : Program} {w : World} {K : PySem.W.Frag} {mg : Str → Option Value} {base : Heap} {cAnswer cKnown cUnknown cWebError cTooFew : Addr} (T : Txt K mg cAnswer cKnown cUnknown cWebError cTooFew) (D : AtMk K mg "Unknown" cUnknown "Unknown.__init__" s_Unknown___init__ ["self", "people"])  : HasMk P w K mg base CX0 1 "Unknown" cUnknown ["self", "people"] (sp_Unknown___init__ K cUnknown) := by
  refine hasMk_of D sc_Unknown___init__ (fun vs H Q E h => ?_) (fun f cdv A outer s H vs Q E hr h => ?_)
  · obtain ⟨x, dx, p, ns, rfl, _⟩ := h
    rfl
  · obtain ⟨x, dx, p, ns, rfl, hx, hp, hq⟩ := h
    refine ⟨_, (pss_one (ps_fld (pv 0) (pe_callTy (cr_listK K) (by rfl) T.n_list (by decide +kernel) (pa_cons (pv 1) pa_nil)) rfl)), ?_⟩
    refine ⟨_, rfl, p, ns, rfl, Or.inl hp, fun l hl => ?_⟩
    have nx : x ≠ l := fun z => by rw [z, hl] at hx; cases hx
    exact ⟨_, rfl, x, cUnknown, dx, [], rfl, (by rw [upd_ne nx]; exact hx), T.o_Unknown.cl, T.o_Unknown.na, (by show 0 < 1000; decide), hq l hl⟩
theorem ok_Unknown_shows {P : Program} {w : World} {K : PySem.W.Frag} {mg : Str → Option Value} {base : Heap} {cAnswer cKnown cUnknown cWebError cTooFew : Addr} (T : Txt K mg cAnswer cKnown cUnknown cWebError cTooFew) (D : AtM K cUnknown "shows" "Unknown.shows" s_Unknown_shows ["self", "web"]) (h_are_people : Has P w K mg base CX0 1 "are_people" ["people", "web"] (sp_are_people K)) (h_all_as : Has P w K mg base CX0 1 "all_as" ["web", "people", "sign"] (sp_all_as K)) : HasM P w K mg base CX0 2 cUnknown "shows" ["self", "web"] (sp_Unknown_shows K cUnknown) := by
  refine hasM_of D sc_Unknown_shows (fun vs H Q E h => ?_) (fun f cdv A outer s H vs Q E hr h => ?_)
  · obtain ⟨x, a, n, k, ns, rfl, _⟩ := h
    rfl
  · obtain ⟨x, a, n, k, ns, rfl, ⟨dx, l, hx, hl⟩, hw, hq⟩ := h
    refine ⟨_, (pss_one (ps_ret (pe_and (hcall h_are_people (hr.mono (by decide)) (pa_cons (fldK K (pv 0)) (pa_cons (pv 1) pa_nil))) (pe_one (hcall h_all_as (hr.mono (by decide)) (pa_cons (pv 1) (pa_cons (fldK K (pv 0)) (pa_cons pe_str pa_nil)))))))), ?_⟩
    refine s_ret (ev_andV (ev_hc (ea_cons (ev_fld (ev_var rfl) T.o_Unknown hx (Ex.refl _)) (ea_cons (ev_var rfl) ea_nil)) (spv_are_people hw (SqL.of hl))) fun hb => ?_) fun H3 e3 => hq H3 e3
    obtain ⟨ps, hps, hlt⟩ := rises_nat hb
    have e1 : ns.map Int.toNat = ps := by
      rw [hps, List.map_map]
      conv => rhs; rw [← List.map_id ps]
      exact List.map_congr_left fun i _ => Int.toNat_natCast i
    have e2 : ns.map V.int = natsV ps := by rw [hps, natsV_ints]
    have hlen : ps.length ≤ 1000 := by
      have h1 := rises_len hb (by decide)
      have h2 := hw.le
      rw [hps] at h1
      rcases h1 with h1 | h1
      · rw [List.length_map] at h1; omega
      · have : ps = [] := by simpa using h1
        rw [this]; decide
    rw [e1]
    rw [e2] at hl
    exact ev_hc (ea_cons (ev_var rfl) (ea_cons (ev_fld (ev_var rfl) T.o_Unknown hx (Ex.refl _)) (ea_cons (ev_is ev_c (by first | exact congrArg V.str sgS_x.symm | exact congrArg V.str sgS_d.symm)) ea_nil))) (spv_all_as hw (SqL.of hl) hlt hlen)
theorem ok_alike {P : Program} {w : World} {K : PySem.W.Frag} {mg : Str → Option Value} {base : Heap} {cAnswer cKnown cUnknown cWebError cTooFew : Addr} (T : Txt K mg cAnswer cKnown cUnknown cWebError cTooFew) (D : At K mg "alike" s_alike ["web"]) (h_asked_web : Has P w K mg base CX0 1 "asked_web" ["web"] (sp_asked_web K)) : Has P w K mg base CX0 2 "alike" ["web"] (sp_alike K) := by
  refine has_of D sc_alike (fun vs H Q E h => ?_) (fun f cdv A outer s H vs Q E hr h => ?_)
  · obtain ⟨a, n, k, rfl, _⟩ := h
    rfl
  · obtain ⟨a, n, k, rfl, hw, hq⟩ := h
    have hn := hw.le
    have dg : ∀ i, 0 ≤ deg n k i ∧ deg n k i ≤ n := fun i => ⟨deg_nn n k i, deg_le n k i⟩
    refine ⟨_, (pss_cons (ps_expr (hcall h_asked_web (hr.mono (by decide)) (pa_cons (pv 0) pa_nil)))
      (pss_cons (st_ 1 sc_alike.nd (pe_callB (cr_lenK K) (by rfl) T.n_len (by decide +kernel) (pa_cons (pv 0) pa_nil)))
      (pss_cons (st_ 2 sc_alike.nd (pe_callB (cr_sumK K rfl) (by rfl) T.n_sum (by decide +kernel) (pa_cons (pe_lc (own := [("row", 3)]) rfl sc_alike.nd (pi_listK K (pv 0)) (blkOk_by (by kernel_rfl)) (fun _ _ _ _ _ => (nm 3 sc_alike.nd)) (fun _ _ _ _ _ => pts_nil) (fun _ _ _ _ _ => (pe_op op_mulA (bmK K PySem.F.plainAttrs_str PySem.F.slot_str_count PySem.F.type_str_count mt_cnt (pv 3) (pa_cons pe_str pa_nil)) (pe_op op_sub (pe_op op_sub (pv 1) pe_int) (bmK K PySem.F.plainAttrs_str PySem.F.slot_str_count PySem.F.type_str_count mt_cnt (pv 3) (pa_cons pe_str pa_nil)))))) pa_nil)))
      (pss_one (ps_ret (pe_op op_sub (pe_op op_fdiv (pe_op op_mulA (pe_op op_mulA (pv 1) (pe_op op_sub (pv 1) pe_int)) (pe_op op_sub (pv 1) pe_int)) pe_int) (pe_op op_fdiv (pv 2) pe_int))))))), ?_⟩
    refine q_drop (ev_hc (ea_cons (ev_var rfl) ea_nil) (spv_asked_web hw)) fun H1 e1 => ?_
    refine q_asg (ev_lenW hw.seq e1 (ev_var rfl)) fun H2 e2 => ?_
    refine q_asg (ev_sumR (el_map (fun i => V.int (deg n k i * ((n : Int) - 1 - deg n k i))) (ew_web (ex_l (e1.trans e2) hw.seq) (Ex.refl _) (ev_var rfl)) (by omega) (fun _ => rfl) fun i H3 e3 hi => ev_mulA (ev_cntRow (ev_var rfl) ev_c) (ev_op (ev_op (ev_var rfl) ev_c rv_I0) (ev_cntRow (ev_var rfl) ev_c) rv_I0) (mul_small (.inl ?_)))) fun H3 e3 => ?_
    · have := dg i; show (deg n k i).natAbs < _; omega
    refine s_ret (ev_op (ev_fdiv (ev_mulA (ev_mulA (ev_var rfl) (ev_op (ev_var rfl) ev_c rv_I0) (mul_small (.inl ?_))) (ev_op (ev_var rfl) ev_c rv_I0) (mul_small (.inr ?_))) ev_c ⟨by decide, by decide⟩) (ev_fdiv (ev_var rfl) ev_c ⟨by decide, by decide⟩) rv_I0) fun H4 e4 => ?_
    · omega
    · omega
    exact hq H4 (((e1.trans e2).trans e3).trans e4)
theorem ok_three {P : Program} {w : World} {K : PySem.W.Frag} {mg : Str → Option Value} {base : Heap} {cAnswer cKnown cUnknown cWebError cTooFew : Addr} (T : Txt K mg cAnswer cKnown cUnknown cWebError cTooFew) (D : At K mg "three" s_three ["web"]) (h_asked_web : Has P w K mg base CX0 1 "asked_web" ["web"] (sp_asked_web K)) (h_all_as : Has P w K mg base CX0 1 "all_as" ["web", "people", "sign"] (sp_all_as K)) (C_Known : HasMk P w K mg base CX0 1 "Known" cKnown ["self", "people"] (sp_Known___init__ K cKnown)) (C_Unknown : HasMk P w K mg base CX0 1 "Unknown" cUnknown ["self", "people"] (sp_Unknown___init__ K cUnknown)) : Has P w K mg base CX0 3 "three" ["web"] (sp_three K cKnown cUnknown) := by
  refine has_of D sc_three (fun vs H Q E h => ?_) (fun f cdv A outer s H vs Q E hr h => ?_)
  · obtain ⟨a, n, k, rfl, _⟩ := h
    rfl
  · obtain ⟨a, n, k, rfl, hw, hq0, hq⟩ := h
    have hn := hw.le
    refine ⟨_, (pss_cons (ps_expr (hcall h_asked_web (hr.mono (by decide)) (pa_cons (pv 0) pa_nil)))
      (pss_cons (ps_for PassesOwn.never rfl (pi_range1 rfl T.n_range (pa_cons (pe_callB (cr_lenK K) (by rfl) T.n_len (by decide +kernel) (pa_cons (pv 0) pa_nil)) pa_nil)) (nm 1 sc_three.nd) (pss_one (ps_for PassesOwn.never rfl (pi_range1 rfl T.n_range (pa_cons (pv 1) pa_nil)) (nm 2 sc_three.nd) (pss_one (ps_for PassesOwn.never rfl (pi_range1 rfl T.n_range (pa_cons (pv 2) pa_nil)) (nm 3 sc_three.nd) (pss_cons (st_ 4 sc_three.nd (pe_lst (pa_cons (pv 3) (pa_cons (pv 2) (pa_cons (pv 1) pa_nil)))))
      (pss_cons (ps_if (pt_val (hcall h_all_as (hr.mono (by decide)) (pa_cons (pv 0) (pa_cons (pv 4) (pa_cons pe_str pa_nil))))) (pss_one (ps_ret (hmake C_Known (hr.mono (by decide)) (pa_cons (pv 4) pa_nil)))) pss_nil)
      (pss_one (ps_if (pt_val (hcall h_all_as (hr.mono (by decide)) (pa_cons (pv 0) (pa_cons (pv 4) (pa_cons pe_str pa_nil))))) (pss_one (ps_ret (hmake C_Unknown (hr.mono (by decide)) (pa_cons (pv 4) pa_nil)))) pss_nil)))))))))
      (pss_one (ps_ret pe_non)))), ?_⟩
    refine q_drop (ev_hc (ea_cons (ev_var rfl) ea_nil) (spv_asked_web hw)) fun H1 e1 => ?_
    refine q_for (Hw := H) (ew_rng1 (n := n) (ea_cons (ev_lenW hw.seq e1 (ev_var rfl)) ea_nil) (by omega)) (fun i σ' H' => Ex H H' ∧ (∀ l, l < i → ∀ m, m < l → ∀ f, f < m → allAs k true [f, m, l] = false ∧ allAs k false [f, m, l] = false) ∧ ∃ s1 s2 s3 s4, σ' = [some (.ref a), s1, s2, s3, s4])
      (fun H3 e3 => ⟨e1.trans e3, fun _ h => absurd h (Nat.not_lt_zero _), _, _, _, _, rfl⟩) (fun i σ' H' _ p => p.1) (fun i σ' H' hi p => ?_) fun σ' H' p => ?_
    · obtain ⟨ex, hno, s1, s2, s3, s4, rfl⟩ := p
      refine s_for (Hw := H) (ew_rng1 (n := i) (ea_cons (ev_var rfl) ea_nil) (by omega)) (fun j σ' H' => Ex H H' ∧ (∀ m, m < j → ∀ f, f < m → allAs k true [f, m, i] = false ∧ allAs k false [f, m, i] = false) ∧ ∃ s2 s3 s4, σ' = [some (.ref a), some (.int (i : Nat)), s2, s3, s4])
        (fun H3 e3 => ⟨ex.trans e3, fun _ h => absurd h (Nat.not_lt_zero _), _, _, _, rfl⟩) (fun i σ' H' _ p => p.1) (fun j σ' H' hj p => ?_) fun σ' H' p => ?_
      · obtain ⟨ex, hno2, s2, s3, s4, rfl⟩ := p
        refine s_for (Hw := H) (ew_rng1 (n := j) (ea_cons (ev_var rfl) ea_nil) (by omega)) (fun t σ' H' => Ex H H' ∧ (∀ f, f < t → allAs k true [f, j, i] = false ∧ allAs k false [f, j, i] = false) ∧ ∃ s3 s4, σ' = [some (.ref a), some (.int (i : Nat)), some (.int (j : Nat)), s3, s4])
          (fun H3 e3 => ⟨ex.trans e3, fun _ h => absurd h (Nat.not_lt_zero _), _, _, rfl⟩) (fun i σ' H' _ p => p.1) (fun t σ' H' ht p => ?_) fun σ' H' p => ?_
        · obtain ⟨ex, hno3, s3, s4, rfl⟩ := p
          refine q_asgL (el_lst (vs := natsV [t, j, i]) (ea_cons (ev_var rfl) (ea_cons (ev_var rfl) (ea_cons (ev_var rfl) ea_nil))) (by simp [natsV])) fun p H5 hp0 e5 hp => ?_
          have ex5 := ex.trans e5
          have lt3 : ∀ z ∈ [t, j, i], z < n := by
            intro z hz
            simp at hz
            omega
          refine q_when (b := allAs k true [t, j, i]) (et_B (ev_hc (ea_cons (ev_var rfl) (ea_cons (ev_var rfl) (ea_cons (ev_is ev_c (by rw [sgS_x])) ea_nil))) (spv_all_as (hw.ex ex5) (SqL.of hp) lt3 (by simp)))) (fun hb H6 e6 => ?_) fun hb H6 e6 => ?_
          · refine s_retMP (em_makeN (EvQ.of_ev (ev_var rfl) (SqL.of hp) e6)) fun x H7 xs hxs e7 hA => ?_
            subst hxs
            exact hq true t j i x H7 (by omega) (by omega) hi hb ((ex5.trans e6).trans e7) (hA.low (ex5.trans e6))
          refine s_when (b := allAs k false [t, j, i]) (et_B (ev_hc (ea_cons (ev_var rfl) (ea_cons (ev_var rfl) (ea_cons (ev_is ev_c (by rw [sgS_d])) ea_nil))) (spv_all_as (hw.ex (ex5.trans e6)) (SqL.of (e6 _ _ hp)) lt3 (by simp)))) (fun hb2 H7 e7 => ?_) fun hb2 H7 e7 => ?_
          · refine s_retMP (em_makeN (EvQ.of_ev (ev_var rfl) (SqL.of hp) (e6.trans e7))) fun x H8 xs hxs e8 hA => ?_
            subst hxs
            exact hq false t j i x H8 (by omega) (by omega) hi hb2 (((ex5.trans e6).trans e7).trans e8) (hA.low ((ex5.trans e6).trans e7))
          refine ⟨(ex5.trans e6).trans e7, fun f hf => ?_, _, _, rfl⟩
          by_cases c : f < t
          · exact hno3 f c
          · have : f = t := by omega
            subst this
            exact ⟨hb, hb2⟩
        · obtain ⟨ex, hno3, s3, s4, rfl⟩ := p
          refine ⟨ex, fun m hm f hf => ?_, _, _, _, rfl⟩
          by_cases c : m < j
          · exact hno2 m c f hf
          · have : m = j := by omega
            subst this
            exact hno3 f hf
      · obtain ⟨ex, hno2, s2, s3, s4, rfl⟩ := p
        refine ⟨ex, fun l hl m hm f hf => ?_, _, _, _, _, rfl⟩
        by_cases c : l < i
        · exact hno l c m hm f hf
        · have : l = i := by omega
          subst this
          exact hno2 m hm f hf
    obtain ⟨ex, hno, s1, s2, s3, s4, rfl⟩ := p
    exact s_ret ev_c fun H3 e3 => hq0 (three_none hno) H3 (ex.trans e3)
theorem ok_asked_size {P : Program} {w : World} {K : PySem.W.Frag} {mg : Str → Option Value} {base : Heap} {cAnswer cKnown cUnknown cWebError cTooFew : Addr} (T : Txt K mg cAnswer cKnown cUnknown cWebError cTooFew) (D : At K mg "asked_size" s_asked_size ["size"]) (h_is_number : Has P w K mg base CX0 1 "is_number" ["thing"] (sp_is_number K)) : Has P w K mg base CX0 2 "asked_size" ["size"] (sp_asked_size K) := by
  refine has_of D sc_asked_size (fun vs H Q E h => ?_) (fun f cdv A outer s H vs Q E hr h => ?_)
  · obtain ⟨i, rfl, _⟩ := h
    rfl
  · obtain ⟨i, rfl, hi, hq⟩ := h
    refine ⟨_, (pss_one (ps_if (PW.pt (pw_or (pt_not (pt_val (hcall h_is_number (hr.mono (by decide)) (pa_cons (pv 0) pa_nil)))) (pw_or1 (pt_cmpR op_lt (pv 0) pe_int (nomark _))))) (pss_one ps_never) pss_nil)), ?_⟩
    refine s_when (b := false) (et_is (et_or (et_not (et_B (ev_hc (ea_cons (ev_var rfl) ea_nil) spv_is_number))) fun _ => et_test (ev_op (ev_var rfl) ev_c rv_I0)) (by simp [hi])) (bl_false rfl) fun _ H1 e1 => ?_
    exact hq H1 e1
theorem ok_fewest {P : Program} {w : World} {K : PySem.W.Frag} {mg : Str → Option Value} {base : Heap} {cAnswer cKnown cUnknown cWebError cTooFew : Addr} (T : Txt K mg cAnswer cKnown cUnknown cWebError cTooFew) (D : At K mg "fewest" s_fewest ["size"]) (h_asked_size : Has P w K mg base CX0 2 "asked_size" ["size"] (sp_asked_size K)) : Has P w K mg base CX0 3 "fewest" ["size"] (sp_fewest K) := by
  refine has_of D sc_fewest (fun vs H Q E h => ?_) (fun f cdv A outer s H vs Q E hr h => ?_)
  · obtain ⟨i, rfl, _⟩ := h
    rfl
  · obtain ⟨i, rfl, hi, hb, hq⟩ := h
    have m1 : ∀ a : Int, -10 ≤ a → a ≤ i + 10 → ∀ b : Int, -10 ≤ b → b ≤ i + 10 → IntMulOk a b := fun a a1 a2 b b1 b2 => mulok (m := 202) (n := 202) (by omega) (by omega) (by decide)
    have m2 : ∀ a : Int, -10 ≤ a → a ≤ i + 10 → ∀ b : Int, -10 ≤ b → b ≤ i + 10 → ∀ c : Int, -10 ≤ c → c ≤ i + 10 → IntMulOk (a * b) c := fun a a1 a2 b b1 b2 c c1 c2 => mulok (m := 404) (n := 202) (mul_bd (m := 202) (n := 202) (by omega) (by omega)) (by omega) (by decide)
    have cd : CDiv 1 24 := ⟨by decide, by decide⟩
    refine ⟨_, (pss_cons (ps_expr (hcall h_asked_size (hr.mono (by decide)) (pa_cons (pv 0) pa_nil)))
      (pss_cons (ps_if (pt_cmpR op_eq (pe_op op_mod (pv 0) pe_int) pe_int (nomark _)) (pss_one (ps_ret (pe_op op_fdiv (pe_op op_mulA (pe_op op_mulA (pv 0) (pe_op op_sub (pv 0) pe_int)) (pe_op op_sub (pv 0) pe_int)) pe_int))) pss_nil)
      (pss_cons (ps_if (pt_cmpR op_eq (pe_op op_mod (pv 0) pe_int) pe_int (nomark _)) (pss_one (ps_ret (pe_op op_fdiv (pe_op op_mulA (pe_op op_mulA (pv 0) (pe_op op_sub (pv 0) pe_int)) (pe_op op_sub (pv 0) pe_int)) pe_int))) pss_nil)
      (pss_one (ps_ret (pe_op op_fdiv (pe_op op_mulA (pe_op op_mulA (pe_op op_add (pv 0) pe_int) (pe_op op_sub (pv 0) pe_int)) (pe_op op_sub (pv 0) pe_int)) pe_int)))))), ?_⟩
    refine q_drop (ev_hc (ea_cons (ev_var rfl) ea_nil) (spv_asked_size hi)) fun H1 e1 => ?_
    refine q_when (b := decide (i % 2 = 0)) (et_test (ev_eqI (ev_mod (ev_var rfl) ev_c (by decide)) ev_c)) (fun hb H2 e2 => ?_) fun hb H2 e2 => ?_
    · refine s_ret (ev_fdiv (ev_mulA (ev_mulA (ev_var rfl) (ev_op (ev_var rfl) ev_c rv_I0) (m1 _ ?_ ?_ _ ?_ ?_)) (ev_op (ev_var rfl) ev_c rv_I0) (m2 _ ?_ ?_ _ ?_ ?_ _ ?_ ?_)) ev_c ⟨by decide, by decide⟩) fun H3 e3 => ?_ <;> first | omega | skip
      have e : fewestZ i = i * (i - 2) * (i - 4) / 24 := by unfold fewestZ; rw [if_pos (of_decide_eq_true hb)]
      exact e ▸ hq H3 ((e1.trans e2).trans e3)
    have hb' := of_decide_eq_false hb
    refine q_when (b := decide (i % 4 = 1)) (et_test (ev_eqI (ev_mod (ev_var rfl) ev_c (by decide)) ev_c)) (fun hc H3 e3 => ?_) fun hc H3 e3 => ?_
    · refine s_ret (ev_fdiv (ev_mulA (ev_mulA (ev_var rfl) (ev_op (ev_var rfl) ev_c rv_I0) (m1 _ ?_ ?_ _ ?_ ?_)) (ev_op (ev_var rfl) ev_c rv_I0) (m2 _ ?_ ?_ _ ?_ ?_ _ ?_ ?_)) ev_c ⟨by decide, by decide⟩) fun H4 e4 => ?_ <;> first | omega | skip
      have e : fewestZ i = i * (i - 1) * (i - 5) / 24 := by unfold fewestZ; rw [if_neg hb', if_pos (of_decide_eq_true hc)]
      exact e ▸ hq H4 (((e1.trans e2).trans e3).trans e4)
    · refine s_ret (ev_fdiv (ev_mulA (ev_mulA (ev_op (ev_var rfl) ev_c rv_I0) (ev_op (ev_var rfl) ev_c rv_I0) (m1 _ ?_ ?_ _ ?_ ?_)) (ev_op (ev_var rfl) ev_c rv_I0) (m2 _ ?_ ?_ _ ?_ ?_ _ ?_ ?_)) ev_c ⟨by decide, by decide⟩) fun H4 e4 => ?_ <;> first | omega | skip
      have e : fewestZ i = (i + 1) * (i - 3) * (i - 4) / 24 := by unfold fewestZ; rw [if_neg hb', if_neg (of_decide_eq_false hc)]
      exact e ▸ hq H4 (((e1.trans e2).trans e3).trans e4)
theorem ok_web_of {P : Program} {w : World} {K : PySem.W.Frag} {mg : Str → Option Value} {base : Heap} {cAnswer cKnown cUnknown cWebError cTooFew : Addr} (T : Txt K mg cAnswer cKnown cUnknown cWebError cTooFew) (D : At K mg "web_of" s_web_of ["size"]) (h_asked_size : Has P w K mg base CX0 2 "asked_size" ["size"] (sp_asked_size K)) : Has P w K mg base CX0 3 "web_of" ["size"] (sp_web_of K) := by
  refine has_of D sc_web_of (fun vs H Q E h => ?_) (fun f cdv A outer s H vs Q E hr h => ?_)
  · obtain ⟨n, rfl, _⟩ := h
    rfl
  · obtain ⟨n, rfl, hn, hq⟩ := h
    refine ⟨_, (pss_cons (ps_expr (hcall h_asked_size (hr.mono (by decide)) (pa_cons (pv 0) pa_nil)))
      (pss_cons (ps_if (pt_cmpR op_gt (pv 0) (gconst T.c_MOST) (nomark _)) (pss_one ps_never) pss_nil)
      (pss_cons (st_ 1 sc_web_of.nd (pe_op op_fdiv (pv 0) pe_int))
      (pss_cons (st_ 2 sc_web_of.nd (pe_op op_fdiv (pv 0) pe_int))
      (pss_cons (st_ 3 sc_web_of.nd (pe_lst pa_nil))
      (pss_cons (ps_for PassesOwn.never rfl (pi_range1 rfl T.n_range (pa_cons (pv 0) pa_nil)) (nm 4 sc_web_of.nd) (pss_cons (st_ 5 sc_web_of.nd (pe_lst pa_nil))
      (pss_cons (ps_for PassesOwn.never rfl (pi_range1 rfl T.n_range (pa_cons (pv 0) pa_nil)) (nm 6 sc_web_of.nd) (pss_cons (st_ 7 sc_web_of.nd (pe_callB (cr_min2 rfl) (by rfl) T.n_min (by decide +kernel) (pa_cons (pe_op op_mod (pe_op op_sub (pv 4) (pv 6)) (pv 0)) (pa_cons (pe_op op_mod (pe_op op_sub (pv 6) (pv 4)) (pv 0)) pa_nil))))
      (pss_cut (ps_if (pt_cmpR op_eq (pe_op op_mod (pv 0) pe_int) pe_int (nomark _)) (pss_one (st_ 8 sc_web_of.nd (pe_and (pe_cmpR op_eq (pe_op op_fdiv (pv 4) (pv 2)) (pe_op op_fdiv (pv 6) (pv 2)) (nomark _)) (pe_one (pe_cmpR op_ne (pv 4) (pv 6) (nomark _)))))) (pss_one (st_ 8 sc_web_of.nd (pe_chain op_lt op_le pe_int (pv 7) (pv 1)))))
      (pss_one (ps_expr (bmK K PySem.F.plainAttrs_list PySem.F.slot_list_append PySem.F.type_list_append mt_append (pv 5) (pa_cons (pe_ifExp (pt_val (pv 8)) pe_str pe_str) pa_nil)))))))
      (pss_one (ps_expr (bmK K PySem.F.plainAttrs_list PySem.F.slot_list_append PySem.F.type_list_append mt_append (pv 3) (pa_cons (pv 5) pa_nil)))))))
      (pss_cut (ps_if (pt_cmpR op_eq (pe_op op_mod (pv 0) pe_int) pe_int (nomark _)) (pss_one (ps_for PassesOwn.never rfl (pi_range3 rfl T.n_range (pa_cons pe_int (pa_cons (pe_op op_sub (pv 0) pe_int) (pa_cons pe_int pa_nil)))) (nm 9 sc_web_of.nd) (pss_cons (ps_par (i := 4) (j := 6) rfl sc_web_of.nd rfl rfl (by decide) rfl rfl (pa_cons (pe_op op_mod (pe_op op_mulA (pv 9) (pv 2)) (pv 0)) (pa_cons (pe_op op_mod (pe_op op_mulA (pe_op op_add (pv 9) pe_int) (pv 2)) (pv 0)) pa_nil)) (by rfl))
      (pss_cons (ps_asg pe_str (pg_sub (pe_ix (ix_listK K) (pv 3) (pv 4) (fun _ _ => rfl)) (pv 6) set_list))
      (pss_one (ps_asg pe_str (pg_sub (pe_ix (ix_listK K) (pv 3) (pv 6) (fun _ _ => rfl)) (pv 4) set_list))))))) pss_nil)
      (pss_one (ps_ret (pe_lc (own := [("signs", 5)]) rfl sc_web_of.nd (pi_listK K (pv 3)) (blkOk_by (by kernel_rfl)) (fun _ _ _ _ _ => (nm 5 sc_web_of.nd)) (fun _ _ _ _ _ => pts_nil) (fun _ _ _ _ _ => (bmK K PySem.F.plainAttrs_str PySem.F.slot_str_join PySem.F.type_str_join (mt_joinK K) pe_str (pa_cons (pv 5) pa_nil))))))))))))), ?_⟩
    refine q_drop (ev_hc (ea_cons (ev_var rfl) ea_nil) (spv_asked_size (by omega))) fun H1 e1 => ?_
    refine q_when (b := false) (et_is (et_test (ev_op (ev_var rfl) ev_c rv_I0)) (by simp; omega)) (bl_false rfl) fun _ H2 e2 => ?_
    refine q_asg (ev_fdiv (ev_var rfl) ev_c ⟨by decide, by decide⟩) fun H3 e3 => ?_
    refine q_asg (ev_fdiv (ev_var rfl) ev_c ⟨by decide, by decide⟩) fun H4 e4 => ?_
    refine q_asgL (el_lst ea_nil (by decide)) fun l H5 hl0 e5 hl => ?_
    have e04 : Ex H H4 := ((e1.trans e2).trans e3).trans e4
    refine q_for (Hw := H4) (ew_rng1 (ea_cons (ev_var rfl) ea_nil) (by omega)) (fun i σ' H' => Ex H4 H' ∧ ∃ ps, ps.length = i ∧ RowsP H4 H' l ps (fun a => sgRow n (wof0 n a)) ∧ ∃ s4 s5 s6 s7 s8, σ' = [some (.int n), some (.int ((n : Int) / 4)), some (.int ((n : Int) / 2)), some (.ref l), s4, s5, s6, s7, s8, none])
      (fun H' e => ⟨e5.trans e, [], rfl, .nil hl0 (e _ _ hl), _, _, _, _, _, rfl⟩) (fun i σ' H' _ p => p.1) (fun i σ' H' hi p => ?_) fun σ' H' p => ?_
    · obtain ⟨ex, ps, hps, r, s4, s5, s6, s7, s8, rfl⟩ := p
      refine q_asgL (el_lst ea_nil (by decide)) fun p H6 hp0 e6 hp => ?_
      obtain ⟨n1, n2⟩ := r.ne hp0
      have fp := fresh_back ex hp0
      refine q_for (Hw := H4) (ew_rng1 (ea_cons (ev_var rfl) ea_nil) (by omega)) (fun j σ' H' => Ex H4 H' ∧ RowsP H4 H' l ps (fun a => sgRow n (wof0 n a)) ∧ H' p = some (.lst (sgRow j (wof0 n i))) ∧ ∃ s6 s7 s8, σ' = [some (.int n), some (.int ((n : Int) / 4)), some (.int ((n : Int) / 2)), some (.ref l), some (.int (i : Nat)), some (.ref p), s6, s7, s8, none])
        (fun H' e => ⟨(ex.trans e6).trans e, (r.ex e6).ex e, e _ _ hp, _, _, _, rfl⟩) (fun i σ' H' _ p => p.1) (fun j σ' H' hj q => ?_) fun σ' H' q => ?_
      · obtain ⟨ex, r, hp, s6, s7, s8, rfl⟩ := q
        refine q_asg (v := .int (apart n i j)) (ev_min2 (ev_mod (ev_op (ev_var rfl) (ev_var rfl) rv_I0) (ev_var rfl) (by omega)) (ev_mod (ev_op (ev_var rfl) (ev_var rfl) rv_I0) (ev_var rfl) (by omega))) fun H7 e7 => ?_
        refine q_cut (M := fun σ' H' => Ex H7 H' ∧ σ' = [some (.int n), some (.int ((n : Int) / 4)), some (.int ((n : Int) / 2)), some (.ref l), some (.int (i : Nat)), some (.ref p), some (.int (j : Nat)), some (.int (apart n i j)), some (.bl (wof0 n i j)), none]) ?_ fun σ' H8 c => ?_
        · refine s_if (b := decide ((n : Int) % 2 = 0)) (et_test (ev_eqI (ev_mod (ev_var rfl) ev_c (by decide)) ev_c)) (fun hb H8 e8 => ?_) fun hb H8 e8 => ?_
          · have hb' := of_decide_eq_true hb
            have ew : wof0 n i j = evenK ((n : Int) / 2) i j := by unfold wof0; rw [if_pos hb']
            rw [ew]
            refine s_asg (v := .bl (evenK ((n : Int) / 2) i j)) (ev_andV (ev_eqI (ev_fdiv (ev_var rfl) (ev_var rfl) ⟨by omega, by omega⟩) (ev_fdiv (ev_var rfl) (ev_var rfl) ⟨by omega, by omega⟩)) fun _ => ev_neI (ev_var rfl) (ev_var rfl)) fun H9 e9 => ⟨e8.trans e9, rfl⟩
          · have hb' := of_decide_eq_false hb
            have ew : wof0 n i j = ringK n ((n : Int) / 4) i j := by unfold wof0; rw [if_neg hb']
            rw [ew]
            refine s_asg (v := .bl (ringK n ((n : Int) / 4) i j)) (ev_chain ev_c (ev_var rfl) (ev_var rfl)) fun H9 e9 => ⟨e8.trans e9, rfl⟩
        · obtain ⟨e8, rfl⟩ := c
          have e78 := e7.trans e8
          refine s_app (xs := sgRow j (wof0 n i)) (e78 _ _ hp) (ev_var rfl) (ev_ifS (et_B (ev_var rfl))) (by rw [sgRow_len]; omega) fun H9 e9 => ?_
          refine ⟨Ex.mut ((ex.trans e78).trans e9) fp, ((r.ex e78).ex e9).keep n1 n2, ?_, _, _, _, rfl⟩
          rw [upd_same, sgRow_succ]
      · obtain ⟨ex, r, hp, s6, s7, s8, rfl⟩ := q
        refine s_app r.hl (ev_var rfl) (ev_var rfl) (by simp; omega) fun H9 e9 => ?_
        refine ⟨Ex.mut (ex.trans e9) hl0, ps ++ [p], by simp [hps], ?_, _, _, _, _, _, rfl⟩
        refine ((r.ex e9).app fp n1 n2 (e9 _ _ hp)).congr fun a ha => ?_
        by_cases c : a < ps.length
        · rw [if_pos c]
        · rw [if_neg c]
          have : a = i := by simp at ha; omega
          rw [this]
    obtain ⟨ex, ps, hps, r, s4, s5, s6, s7, s8, rfl⟩ := p
    refine q_cut (M := fun σ' H' => Ex H4 H' ∧ RowsP H4 H' l ps (fun a => sgRow n (wofK n a)) ∧ ∃ s4 s5 s6 s7 s8 s9, σ' = [some (.int n), some (.int ((n : Int) / 4)), some (.int ((n : Int) / 2)), some (.ref l), s4, s5, s6, s7, s8, s9]) ?_ fun σ' H8 c => ?_
    · refine s_when (b := decide ((n : Int) % 4 = 3)) (et_test (ev_eqI (ev_mod (ev_var rfl) ev_c (by decide)) ev_c)) (fun hb H6 e6 => ?_) fun hb H6 e6 => ?_
      · have hb' := of_decide_eq_true hb
        have h4 : n % 4 = 3 := by omega
        refine s_for (Hw := H4) (ew_rng3 (ea_cons ev_c (ea_cons (ev_op (ev_var rfl) ev_c rv_I0) (ea_cons ev_c ea_nil))) (rg_two h4 hn)) (fun s σ' H' => Ex H4 H' ∧ RowsP H4 H' l ps (fun a => sgRow n (fun b => wof0 n a b || mtS n s a b)) ∧ ∃ s4 s5 s6 s7 s8 s9, σ' = [some (.int n), some (.int ((n : Int) / 4)), some (.int ((n : Int) / 2)), some (.ref l), s4, s5, s6, s7, s8, s9])
          (fun H' e => ⟨(ex.trans e6).trans e, ((r.ex e6).ex e).congr fun a _ => sgRow_congr fun b _ => by simp [mtS], _, _, _, _, _, _, rfl⟩) (fun i σ' H' _ p => p.1) (fun s σ' H' hs q => ?_) fun σ' H' q => ?_
        · obtain ⟨ex, r, s4, s5, s6, s7, s8, s9, rfl⟩ := q
          have ma : mA n s < n := by unfold mA; split <;> omega
          have mb : mB n s < n := by unfold mB; omega
          refine q_par (v := .int (mA n s : Nat)) (w := .int (mB n s : Nat)) (ea_cons (ev_is (ev_mod (ev_mulA (ev_var rfl) (ev_var rfl) (mul_small (.inl (by omega)))) (ev_var rfl) (by omega)) (by rw [mA_eq h4 hs])) (ea_cons (ev_is (ev_mod (ev_mulA (ev_op (ev_var rfl) ev_c rv_I0) (ev_var rfl) (mul_small (.inl (by omega)))) (ev_var rfl) (by omega)) (by rw [mB_eq h4 hs])) ea_nil)) fun H7 e7 => ?_
          refine q_setRow (r.ex e7) ev_c (ev_var rfl) (ev_var rfl) (ev_var rfl) (by omega) (by rw [sgRow_len]; omega) fun H8 e8 p hp fp r8 => ?_
          refine s_setRow r8 ev_c (ev_var rfl) (ev_var rfl) (ev_var rfl) (by omega) (by split <;> simp [sgRow_len] <;> omega) fun H9 e9 p' hp' fp' r9 => ?_
          refine ⟨Ex.mut ((Ex.mut ((ex.trans e7).trans e8) fp).trans e9) fp', r9.congr fun a ha => ?_, _, _, _, _, _, _, rfl⟩
          have ne : mA n s ≠ mB n s := by unfold mA mB; split <;> omega
          rw [← sgS_x]
          simp only [sgRow_set]
          by_cases c1 : a = mB n s
          · subst c1
            simp only [if_true, if_neg ne.symm]
            rw [sgRow_set]
            refine sgRow_congr fun b _ => ?_
            simp [mtS, ne.symm]
            by_cases c2 : b = mA n s <;> simp [c2]
          · by_cases c2 : a = mA n s
            · subst c2
              simp only [if_true, if_neg c1]
              refine sgRow_congr fun b _ => ?_
              simp [mtS, ne]
              by_cases c3 : b = mB n s <;> simp [c3]
            · simp only [if_neg c1, if_neg c2]
              refine sgRow_congr fun b _ => ?_
              simp [mtS, c1, c2]
        · obtain ⟨ex, r, s4, s5, s6, s7, s8, s9, rfl⟩ := q
          refine ⟨ex, r.congr fun a _ => sgRow_congr fun b _ => ?_, _, _, _, _, _, _, rfl⟩
          unfold wofK
          rw [decide_eq_true hb', Bool.true_and]
      · have hb' := of_decide_eq_false hb
        refine ⟨ex.trans e6, (r.ex e6).congr fun a _ => sgRow_congr fun b _ => ?_, _, _, _, _, _, _, rfl⟩
        unfold wofK
        rw [decide_eq_false hb', Bool.false_and, Bool.or_false]
    · obtain ⟨ex, r, s4, s5, s6, s7, s8, s9, rfl⟩ := c
      exact s_retL (el_joinRows r hps hn (ev_var rfl) (fun _ => rfl) fun _ => rfl) fun p H9 hp e9 hp9 => hq p H9 (fresh_back (e04.trans ex) hp) ((e04.trans ex).trans e9) hp9
theorem ok_asked_group {P : Program} {w : World} {K : PySem.W.Frag} {mg : Str → Option Value} {base : Heap} {cAnswer cKnown cUnknown cWebError cTooFew : Addr} (T : Txt K mg cAnswer cKnown cUnknown cWebError cTooFew) (D : At K mg "asked_group" s_asked_group ["size"]) (h_is_number : Has P w K mg base CX0 1 "is_number" ["thing"] (sp_is_number K)) : Has P w K mg base CX0 2 "asked_group" ["size"] (sp_asked_group K) := by
  refine has_of D sc_asked_group (fun vs H Q E h => ?_) (fun f cdv A outer s H vs Q E hr h => ?_)
  · obtain ⟨a, rfl, _⟩ := h
    rfl
  · obtain ⟨a, rfl, ha, hq⟩ := h
    refine ⟨_, (pss_one (ps_if (PW.pt (pw_or (pt_not (pt_val (hcall h_is_number (hr.mono (by decide)) (pa_cons (pv 0) pa_nil)))) (pw_or1 (pt_not (pt_chain op_le op_le pe_int (pv 0) (gconst T.c_MOST)))))) (pss_one ps_never) pss_nil)), ?_⟩
    refine s_when (b := false) (et_is (et_or (et_not (et_B (ev_hc (ea_cons (ev_var rfl) ea_nil) spv_is_number))) fun _ => et_not (et_test (ev_chain (f := fun i j => decide (i ≤ j)) (g := fun i j => decide (i ≤ j)) ev_c (ev_var rfl) ev_c))) ?_) (bl_false rfl) fun _ H1 e1 => hq H1 e1
    rw [decide_eq_true (show (1 : Int) ≤ ((a + 1 : Nat) : Int) by omega), decide_eq_true (show ((a + 1 : Nat) : Int) ≤ 200 by omega)]; rfl
theorem ok_sure_of {P : Program} {w : World} {K : PySem.W.Frag} {mg : Str → Option Value} {base : Heap} {cAnswer cKnown cUnknown cWebError cTooFew : Addr} (T : Txt K mg cAnswer cKnown cUnknown cWebError cTooFew) (D : At K mg "sure_of" s_sure_of ["known", "unknown"])  : Has P w K mg base CX0 1 "sure_of" ["known", "unknown"] (sp_sure_of K) := by
  refine has_of D sc_sure_of (fun vs H Q E h => ?_) (fun f cdv A outer s H vs Q E hr h => ?_)
  · obtain ⟨a, b, rfl, _⟩ := h
    rfl
  · obtain ⟨a, b, rfl, ha, hb, hq⟩ := h
    refine ⟨_, (pss_cons (st_ 2 sc_sure_of.nd pe_int)
      (pss_cons (ps_for PassesOwn.never rfl (pi_range2 rfl T.n_range (pa_cons pe_int (pa_cons (pv 0) pa_nil))) (nm 3 sc_sure_of.nd) (pss_one (st_ 2 sc_sure_of.nd (pe_op op_fdiv (pe_op op_mulA (pv 2) (pe_op op_add (pe_op op_sub (pv 1) pe_int) (pv 3))) (pv 3)))))
      (pss_one (ps_ret (pv 2))))), ?_⟩
    refine q_asg (v := .int (ram 0 b : Nat)) ev_c fun H1 e1 => ?_
    refine q_for (Hw := H) (n := a) (ew_rng2 (ea_cons ev_c (ea_cons (ev_var rfl) ea_nil)) (by omega) (by omega)) (fun i σ' H' => Ex H H' ∧ ∃ u, σ' = [some (.int ((a + 1 : Nat) : Nat)), some (.int ((b + 1 : Nat) : Nat)), some (.int (ram i b : Nat)), u]) (fun H' e => ⟨e1.trans e, _, rfl⟩) (fun i σ' H' _ p => p.1) (fun i σ' H' hi p => ?_) fun σ' H' p => ?_
    · obtain ⟨ex, u, rfl⟩ := p
      exact s_asg (v := .int (ram (i + 1) b : Nat)) (ev_is (ev_fdiv (ev_mulA (ev_var rfl) (ev_op (ev_op (ev_var rfl) ev_c rv_I0) (ev_var rfl) rv_I0) (mul_small (.inr (by omega)))) (ev_var rfl) ⟨by omega, by omega⟩) (congrArg V.int (ram_div i b))) fun H2 e2 => ⟨ex.trans e2, _, rfl⟩
    obtain ⟨ex, u, rfl⟩ := p
    exact s_ret (ev_var rfl) fun H2 e2 => hq H2 (ex.trans e2)
theorem ok_sure {P : Program} {w : World} {K : PySem.W.Frag} {mg : Str → Option Value} {base : Heap} {cAnswer cKnown cUnknown cWebError cTooFew : Addr} (T : Txt K mg cAnswer cKnown cUnknown cWebError cTooFew) (D : At K mg "sure" s_sure ["known", "unknown"]) (h_asked_group : Has P w K mg base CX0 2 "asked_group" ["size"] (sp_asked_group K)) (h_sure_of : Has P w K mg base CX0 1 "sure_of" ["known", "unknown"] (sp_sure_of K)) : Has P w K mg base CX0 3 "sure" ["known", "unknown"] (sp_sure K) := by
  refine has_of D sc_sure (fun vs H Q E h => ?_) (fun f cdv A outer s H vs Q E hr h => ?_)
  · obtain ⟨a, b, rfl, _⟩ := h
    rfl
  · obtain ⟨a, b, rfl, ha, hb, hq⟩ := h
    refine ⟨_, (pss_cons (ps_expr (hcall h_asked_group (hr.mono (by decide)) (pa_cons (pv 0) pa_nil)))
      (pss_cons (ps_expr (hcall h_asked_group (hr.mono (by decide)) (pa_cons (pv 1) pa_nil)))
      (pss_one (ps_ret (hcall h_sure_of (hr.mono (by decide)) (pa_cons (pv 0) (pa_cons (pv 1) pa_nil))))))), ?_⟩
    refine q_drop (ev_hc (ea_cons (ev_var rfl) ea_nil) (spv_asked_group ha)) fun H1 e1 => ?_
    refine q_drop (ev_hc (ea_cons (ev_var rfl) ea_nil) (spv_asked_group hb)) fun H2 e2 => ?_
    exact s_ret (ev_hc (ea_cons (ev_var rfl) (ea_cons (ev_var rfl) ea_nil)) (spv_sure_of ha hb)) fun H3 e3 => hq H3 ((e1.trans e2).trans e3)
theorem ok_found {P : Program} {w : World} {K : PySem.W.Frag} {mg : Str → Option Value} {base : Heap} {cAnswer cKnown cUnknown cWebError cTooFew : Addr} (T : Txt K mg cAnswer cKnown cUnknown cWebError cTooFew) (D : At K mg "found" s_found ["web", "known", "unknown"]) (h_asked_web : Has P w K mg base CX0 1 "asked_web" ["web"] (sp_asked_web K)) (h_asked_group : Has P w K mg base CX0 2 "asked_group" ["size"] (sp_asked_group K)) (h_sure_of : Has P w K mg base CX0 1 "sure_of" ["known", "unknown"] (sp_sure_of K)) (C_Known : HasMk P w K mg base CX0 1 "Known" cKnown ["self", "people"] (sp_Known___init__ K cKnown)) (C_Unknown : HasMk P w K mg base CX0 1 "Unknown" cUnknown ["self", "people"] (sp_Unknown___init__ K cUnknown)) : Has P w K mg base (L2.CX P w) 3 "found" ["web", "known", "unknown"] (sp_found K cKnown cUnknown cTooFew) := by
  refine hasX_of D sc_found (fun vs H Q E h => ?_) (fun f cdv A outer s H vs Q E hr h => ?_)
  · obtain ⟨p, n, k, a, b, rfl, _⟩ := h
    rfl
  · obtain ⟨p, n, k, a, b, rfl, hw, ha, hb, hE, hq⟩ := h
    have hn := hw.le
    refine ⟨_, (pss_cons (ps_expr (hcall h_asked_web (hr.mono (by decide)) (pa_cons (pv 0) pa_nil)))
      (pss_cons (ps_expr (hcall h_asked_group (hr.mono (by decide)) (pa_cons (pv 1) pa_nil)))
      (pss_cons (ps_expr (hcall h_asked_group (hr.mono (by decide)) (pa_cons (pv 2) pa_nil)))
      (pss_cons (ps_if (pt_cmpR op_lt (pe_callB (cr_lenK K) (by rfl) T.n_len (by decide +kernel) (pa_cons (pv 0) pa_nil)) (hcall h_sure_of (hr.mono (by decide)) (pa_cons (pv 1) (pa_cons (pv 2) pa_nil))) (nomark _)) (pss_one (ps_raise rfl (takes_of rfl rfl rfl rfl) (pmk_own PySem.F.excBase_ValueError T.r_TooFew.x T.m_TooFew T.r_TooFew.k (raises_own T.r_TooFew.b T.r_TooFew.t) (by exact rfl)))) pss_nil)
      (pss_cons (st_ 3 sc_found.nd (pe_listRg rfl (by rfl) T.n_list (prg_1 (by rfl) T.n_range (pe_callB (cr_lenK K) (by rfl) T.n_len (by decide +kernel) (pa_cons (pv 0) pa_nil)))))
      (pss_cons (st_ 4 sc_found.nd (pe_lst pa_nil))
      (pss_cons (st_ 5 sc_found.nd (pe_lst pa_nil))
      (pss_cons (ps_while (passes_of rfl) (PW.pt (pw_and (pt_cmpR op_lt (pe_callB (cr_lenK K) (by rfl) T.n_len (by decide +kernel) (pa_cons (pv 4) pa_nil)) (pe_op op_sub (pv 1) pe_int) (nomark _)) (pw_and1 (pt_cmpR op_lt (pe_callB (cr_lenK K) (by rfl) T.n_len (by decide +kernel) (pa_cons (pv 5) pa_nil)) (pe_op op_sub (pv 2) pe_int) (nomark _))))) (pss_cons (st_ 6 sc_found.nd (pe_ix (ix_listK K) (pv 3) pe_int (fun _ _ => rfl)))
      (pss_cons (ps_setLc (i := 7) (own := [("other", 8)]) rfl sc_found.nd rfl rfl (sw_true rfl rfl rfl (by decide +kernel)) (pi_listK K (pv 3)) (blkOk_by (by kernel_rfl)) (fun _ _ _ _ _ => (nm 8 sc_found.nd)) (fun _ _ _ _ _ => pts_one (pt_cmpR op_eq (pe_ix ix_str (pe_ix (ix_listK K) (pv 0) (pv 6) (fun _ _ => rfl)) (pv 8) (fun _ _ => rfl)) pe_str (nomark _))) (fun _ _ _ _ _ => (pv 8)))
      (pss_one (ps_if (pt_cmpR op_ge (pe_callB (cr_lenK K) (by rfl) T.n_len (by decide +kernel) (pa_cons (pv 7) pa_nil)) (hcall h_sure_of (hr.mono (by decide)) (pa_cons (pe_op op_sub (pe_op op_sub (pv 1) (pe_callB (cr_lenK K) (by rfl) T.n_len (by decide +kernel) (pa_cons (pv 4) pa_nil))) pe_int) (pa_cons (pe_op op_sub (pv 2) (pe_callB (cr_lenK K) (by rfl) T.n_len (by decide +kernel) (pa_cons (pv 5) pa_nil))) pa_nil))) (nomark _)) (pss_cons (ps_expr (bmK K PySem.F.plainAttrs_list PySem.F.slot_list_append PySem.F.type_list_append mt_append (pv 4) (pa_cons (pv 6) pa_nil)))
      (pss_one (st_ 3 sc_found.nd (pv 7)))) (pss_cons (ps_expr (bmK K PySem.F.plainAttrs_list PySem.F.slot_list_append PySem.F.type_list_append mt_append (pv 5) (pa_cons (pv 6) pa_nil)))
      (pss_one (ps_setLc (i := 3) (own := [("other", 8)]) rfl sc_found.nd rfl rfl (sw_true rfl rfl rfl (by decide +kernel)) (pi_listK K (pe_slice (sl_listK K) (pv 3) (po_some pe_int) po_none)) (blkOk_by (by kernel_rfl)) (fun _ _ _ _ _ => (nm 8 sc_found.nd)) (fun _ _ _ _ _ => pts_one (pt_cmpR op_eq (pe_ix ix_str (pe_ix (ix_listK K) (pv 0) (pv 6) (fun _ _ => rfl)) (pv 8) (fun _ _ => rfl)) pe_str (nomark _))) (fun _ _ _ _ _ => (pv 8))))))))))
      (pss_cons (ps_if (pt_cmpR op_eq (pe_callB (cr_lenK K) (by rfl) T.n_len (by decide +kernel) (pa_cons (pv 4) pa_nil)) (pe_op op_sub (pv 1) pe_int) (nomark _)) (pss_one (ps_ret (hmake C_Known (hr.mono (by decide)) (pa_cons (pe_callB (cr_sortedK K) (by rfl) T.n_sorted (by decide +kernel) (pa_cons (pe_op op_cat (pv 4) (pe_slice (sl_listK K) (pv 3) po_none (po_some pe_int))) pa_nil)) pa_nil)))) pss_nil)
      (pss_one (ps_ret (hmake C_Unknown (hr.mono (by decide)) (pa_cons (pe_callB (cr_sortedK K) (by rfl) T.n_sorted (by decide +kernel) (pa_cons (pe_op op_cat (pv 5) (pe_slice (sl_listK K) (pv 3) po_none (po_some pe_int))) pa_nil)) pa_nil))))))))))))), ?_⟩
    refine q_drop (ev_hc (ea_cons (ev_var rfl) ea_nil) (spv_asked_web hw)) fun H1 e1 => ?_
    refine q_drop (ev_hc (ea_cons (ev_var rfl) ea_nil) (spv_asked_group ha)) fun H2 e2 => ?_
    refine q_drop (ev_hc (ea_cons (ev_var rfl) ea_nil) (spv_asked_group hb)) fun H3 e3 => ?_
    have e03 := (e1.trans e2).trans e3
    refine q_when (b := decide (n < ram a b)) (et_is (et_test (ev_op (ev_lenW hw.seq e03 (ev_var rfl)) (ev_hc (ea_cons (ev_var rfl) (ea_cons (ev_var rfl) ea_nil)) (spv_sure_of ha hb)) rv_I0)) (decide_eq_decide.mpr Int.ofNat_lt)) (fun hlt H4 e4 => ?_) fun hge H4 e4 => ?_
    · exact hE (of_decide_eq_true hlt) H4 (e03.trans e4)
    have hge := Nat.not_lt.mp (of_decide_eq_false hge)
    have hq := hq hge
    have e04 := e03.trans e4
    refine q_asgL (el_listRg (ev_lenW hw.seq e04 (ev_var rfl)) (by omega)) fun lp0 H5 hl0 e5 hl5 => ?_
    refine q_asgL (el_lst ea_nil (by simp)) fun f H6 hf0 e6 hf6 => ?_
    refine q_asgL (el_lst ea_nil (by simp)) fun s H7 hs0 e7 hs7 => ?_
    have n1 : lp0 ≠ f := fun z => by rw [← z, hl5] at hf0; cases hf0
    have n2 : lp0 ≠ s := fun z => by rw [← z, e6 _ _ hl5] at hs0; cases hs0
    have n3 : f ≠ s := fun z => by rw [← z, hf6] at hs0; cases hs0
    have ff := fresh_back (e04.trans e5) hf0
    have fs := fresh_back ((e04.trans e5).trans e6) hs0
    refine q_while (fun m σ' H' => Ex H H' ∧ ∃ L lp F S u v, m = L.length ∧ lp ≠ f ∧ lp ≠ s ∧ H' lp = some (.lst (natsV L)) ∧ H' f = some (.lst (natsV F)) ∧ H' s = some (.lst (natsV S)) ∧ FInv n k a b L F S ∧ σ' = [some (.ref p), some (.int ((a + 1 : Nat) : Nat)), some (.int ((b + 1 : Nat) : Nat)), some (.ref lp), some (.ref f), some (.ref s), u, v, none]) (List.range n).length
      ⟨((e04.trans e5).trans e6).trans e7, _, _, [], [], _, _, rfl, n1, n2, e7 _ _ (e6 _ _ hl5), e7 _ _ hf6, hs7, .start hge, rfl⟩ fun m σ' H' pp => ?_
    obtain ⟨ex, L, lp, F, S, u, v, rfl, nlf, nls, hlp, hF, hS, I, rfl⟩ := pp
    have lenL : L.length ≤ 200 := by
      have h1 := len_sm (n := n) (fun _ => true) I.nd I.lt
      have h2 : sm n (fun u => b2 (decide (u ∈ L) && true)) ≤ sm n (fun _ => 1) := sm_le fun _ _ => b2_le _
      rw [sm_const, ← h1, List.filter_eq_self.mpr fun _ _ => rfl] at h2
      omega
    have lenF := I.fle
    have lenS := I.sle
    refine ⟨decide (F.length < a) && decide (S.length < b), et_and (et_is (et_test (ev_op (ev_lenL (ev_var rfl) (SqL.of hF)) (ev_op (ev_var rfl) ev_c rv_I0) rv_I0)) (decide_eq_decide.mpr (by rw [natsV_len]; omega))) fun _ => et_is (et_test (ev_op (ev_lenL (ev_var rfl) (SqL.of hS)) (ev_op (ev_var rfl) ev_c rv_I0) rv_I0)) (decide_eq_decide.mpr (by rw [natsV_len]; omega)), fun hb2 H8 e8 => ?_, fun hb2 H8 e8 => ?_⟩
    rotate_left
    · have pos : 1 ≤ L.length := Nat.le_trans (ram_pos _ _) I.big
      have hF8 := e8 _ _ hF
      have hS8 := e8 _ _ hS
      have hlp8 := e8 _ _ hlp
      have cat : ∀ X : List Nat, natsV X ++ (natsV L).take 1 = ((X ++ L.take 1).map fun (i : Nat) => (i : Int)).map V.int := fun X => by
        rw [← natsV_ints]; unfold natsV; rw [List.map_append, List.map_take]
      refine q_when (b := decide (F.length = a)) (et_is (et_test (ev_eqI (ev_lenL (ev_var rfl) (SqL.of hF8)) (ev_op (ev_var rfl) ev_c rv_I0))) (decide_eq_decide.mpr (by rw [natsV_len]; omega))) (fun hfa H9 e9 => ?_) fun hfa H9 e9 => ?_
      · have hfa := of_decide_eq_true hfa
        refine s_retMP (C := cKnown) (em_makeP (el_sortedP (ns := (F ++ L.take 1).map fun (i : Nat) => (i : Int)) (EvQ.of_el (el_is (el_cat (ev_var rfl) (e9 _ _ hF8) (Ex.refl _) (el_slQ (EvQ.of_ev (ev_var rfl) (SqL.of (e9 _ _ hlp8)) (Ex.refl _)) eo_none (eo_some ev_c)) ?_) ?_)))) fun x H10 xs hP e10 hA => ?_
        · rw [show cutV (natsV L) none (some 1) = (natsV L).take 1 from cut_take _ 1, natsV_len, List.length_take, natsV_len]; omega
        · rw [show cutV (natsV L) none (some 1) = (natsV L).take 1 from cut_take _ 1]; exact cat F
        · obtain ⟨ms, hpm, hsr, rfl⟩ := hP
          obtain ⟨ps, rfl, hG⟩ := goodF_of hw.w I.ndF I.ltF I.cF I.lt I.fL pos hpm hsr
          rw [hfa] at hG
          rw [← natsV_ints] at hA
          exact hq true ps x H10 hG (((ex.trans e8).trans e9).trans e10) (hA.low ((ex.trans e8).trans e9))
      · have hfa := of_decide_eq_false hfa
        have hsb : S.length = b := by
          rw [Bool.and_eq_false_iff, decide_eq_false_iff_not, decide_eq_false_iff_not] at hb2
          omega
        refine s_retMP (C := cUnknown) (em_makeP (el_sortedP (ns := (S ++ L.take 1).map fun (i : Nat) => (i : Int)) (EvQ.of_el (el_is (el_cat (ev_var rfl) (e9 _ _ hS8) (Ex.refl _) (el_slQ (EvQ.of_ev (ev_var rfl) (SqL.of (e9 _ _ hlp8)) (Ex.refl _)) eo_none (eo_some ev_c)) ?_) ?_)))) fun x H10 xs hP e10 hA => ?_
        · rw [show cutV (natsV L) none (some 1) = (natsV L).take 1 from cut_take _ 1, natsV_len, List.length_take, natsV_len]; omega
        · rw [show cutV (natsV L) none (some 1) = (natsV L).take 1 from cut_take _ 1]; exact cat S
        · obtain ⟨ms, hpm, hsr, rfl⟩ := hP
          obtain ⟨ps, rfl, hG⟩ := goodF_of hw.w I.ndS I.ltS I.cS I.lt I.sL pos hpm hsr
          rw [hsb] at hG
          rw [← natsV_ints] at hA
          exact hq false ps x H10 hG (((ex.trans e8).trans e9).trans e10) (hA.low ((ex.trans e8).trans e9))
    rw [Bool.and_eq_true, decide_eq_true_eq, decide_eq_true_eq] at hb2
    obtain ⟨hfa, hsb⟩ := hb2
    have ex8 := ex.trans e8
    have hlp8 := e8 _ _ hlp
    have hF8 := e8 _ _ hF
    have hS8 := e8 _ _ hS
    match L, Nat.le_trans (ram_pos _ _) I.big, I, hlp8, lenL with
    | one :: L', _, I, hlp8, lenL =>
      have hone := I.lt one (List.mem_cons_self ..)
      have hL8 : SqL K H8 lp (natsV (one :: L')) := SqL.of hlp8
      refine ⟨fun σ2 H9 => Ex H H9 ∧ ∃ L2 lp F S u v, L2.length < (one :: L').length ∧ lp ≠ f ∧ lp ≠ s ∧ H9 lp = some (.lst (natsV L2)) ∧ H9 f = some (.lst (natsV F)) ∧ H9 s = some (.lst (natsV S)) ∧ FInv n k a b L2 F S ∧ σ2 = [some (.ref p), some (.int ((a + 1 : Nat) : Nat)), some (.int ((b + 1 : Nat) : Nat)), some (.ref lp), some (.ref f), some (.ref s), u, v, none], fun σ2 H9 ⟨e, L2, lp', F', S', u', v', h1, h2⟩ => ⟨L2.length, h1, e, L2, lp', F', S', u', v', rfl, h2⟩, ?_⟩
      refine q_asg (v := .int (one : Nat)) (ev_op (ev_var rfl) ev_c (rv_ixL (i := ((0 : Nat) : Int)) hL8 (atI_nat rfl))) fun H9 e9 => ?_
      have ex9 := ex8.trans e9
      refine q_asgL (xs := natsV ((one :: L').filter (k one))) (el_is (el_lc (fun j => k one ((one :: L').getD j 0)) (fun j => V.int ((one :: L').getD j 0 : Nat)) ((ew_list (ev_var rfl) (ex_l e9 hL8) (Ex.refl _)).of_eq (natsV_len _) fun i hi => natsV_at (by rw [natsV_len] at hi; exact hi)) (by omega) (fun _ => rfl) (fun j H10 e10 hj => et_test (ev_eqX (ev_cell hw.seq (ex9.trans e10) hn (ev_var rfl) (ev_var rfl) (ev_var rfl) hone (I.lt _ (getD_mem hj))) ev_c)) fun j H10 e10 hj _ => ev_var rfl) (given_filter 0 (k one) (fun x => V.int (x : Nat)) (one :: L'))) fun q H10 hq0 e10 hq10 => ?_
      have e810 := e9.trans e10
      have ex10 := ex9.trans e10
      have hF10 := e810 _ _ hF8
      have hS10 := e810 _ _ hS8
      have hlp10 := e810 _ _ hlp8
      have nqf : q ≠ f := fun z => by rw [z, e9 _ _ hF8] at hq0; cases hq0
      have nqs : q ≠ s := fun z => by rw [z, e9 _ _ hS8] at hq0; cases hq0
      refine s_if (b := decide (ram (a - F.length - 1) (b - S.length) ≤ ((one :: L').filter (k one)).length)) (et_is (et_test (ev_op (ev_lenL (ev_var rfl) (SqL.of hq10)) (ev_hc (vs := [.int ((a - F.length - 1 + 1 : Nat) : Nat), .int ((b - S.length + 1 : Nat) : Nat)]) (ea_cons (ev_is (ev_op (ev_op (ev_var rfl) (ev_lenL (ev_var rfl) (SqL.of hF10)) rv_I0) ev_c rv_I0) (congrArg V.int (by rw [natsV_len]; omega))) (ea_cons (ev_is (ev_op (ev_var rfl) (ev_lenL (ev_var rfl) (SqL.of hS10)) rv_I0) (congrArg V.int (by rw [natsV_len]; omega))) ea_nil)) (spv_sure_of (by omega) (by omega))) rv_I0)) (decide_eq_decide.mpr (by rw [natsV_len]; exact Int.ofNat_le))) (fun hle H11 e11 => ?_) fun hle H11 e11 => ?_
      · have hle := of_decide_eq_true hle
        refine q_app (e11 _ _ hF10) (ev_var rfl) (ev_var rfl) (by rw [natsV_len]; omega) fun H12 e12 => ?_
        have eF : natsV F ++ [V.int (one : Nat)] = natsV (F ++ [one]) := by unfold natsV; rw [List.map_append]; rfl
        rw [eF]
        have e1012 := e11.trans e12
        refine s_asg (ev_var rfl) fun H13 e13 => ⟨(Ex.mut (ex10.trans e1012) ff).trans e13, _, q, F ++ [one], S, _, _, ?_, nqf, nqs, e13 _ _ (by rw [upd_ne nqf]; exact e1012 _ _ hq10), e13 _ _ upd_same, e13 _ _ (by rw [upd_ne n3.symm]; exact e1012 _ _ hS10), I.known hw.w (List.mem_cons_self ..) hfa hle, rfl⟩
        exact List.length_filter_lt_length_iff_exists.mpr ⟨one, List.mem_cons_self .., by rw [hw.w.irr one hone]; decide⟩
      · have hle := Nat.not_le.mp (of_decide_eq_false hle)
        refine q_app (e11 _ _ hS10) (ev_var rfl) (ev_var rfl) (by rw [natsV_len]; omega) fun H12 e12 => ?_
        have eS : natsV S ++ [V.int (one : Nat)] = natsV (S ++ [one]) := by unfold natsV; rw [List.map_append]; rfl
        rw [eS]
        have e1012 := e11.trans e12
        have ex12 : Ex H (upd H12 s (.lst (natsV (S ++ [one])))) := Ex.mut (ex10.trans e1012) fs
        have hlp12 : (upd H12 s (.lst (natsV (S ++ [one])))) lp = some (.lst (natsV (one :: L'))) := by rw [upd_ne nls]; exact e1012 _ _ hlp10
        have hF12 : (upd H12 s (.lst (natsV (S ++ [one])))) f = some (.lst (natsV F)) := by rw [upd_ne n3]; exact e1012 _ _ hF10
        have hS12 : (upd H12 s (.lst (natsV (S ++ [one])))) s = some (.lst (natsV (S ++ [one]))) := upd_same
        generalize upd H12 s (.lst (natsV (S ++ [one]))) = H13 at ex12 hlp12 hF12 hS12
        refine s_asgL (xs := natsV (L'.filter fun o => !k one o)) (el_is (el_lcN (fun j => !k one (L'.getD j 0)) (fun j => V.int (L'.getD j 0 : Nat)) ((ewn_list (xs := natsV L') (EvQ.of_el (el_is (el_slQ (EvQ.of_ev (ev_var rfl) (SqL.of hlp12) (Ex.refl _)) (eo_some ev_c) eo_none) ((cut_drop _ 1).trans rfl)))).of_eq (natsV_len _) fun i hi => natsV_at (by rw [natsV_len] at hi; exact hi)) (by simp at lenL; omega) (fun _ => rfl) (fun j H14 e14 hj => et_test (ev_eqD (ev_cell hw.seq (ex12.trans e14) hn (ev_var rfl) (ev_var rfl) (ev_var rfl) hone (I.lt _ (List.mem_cons_of_mem _ (getD_mem hj)))) ev_c)) fun j H14 e14 hj _ => ev_var rfl) (given_filter 0 (fun o => !k one o) (fun x => V.int (x : Nat)) L')) fun q2 H14 hq20 e14 hq214 => ?_
        have nqf2 : q2 ≠ f := fun z => by rw [z, hF12] at hq20; cases hq20
        have nqs2 : q2 ≠ s := fun z => by rw [z, hS12] at hq20; cases hq20
        exact ⟨ex12.trans e14, _, q2, F, S ++ [one], _, _, Nat.lt_of_le_of_lt (List.length_filter_le _ _) (by simp), nqf2, nqs2, hq214, e14 _ _ hF12, e14 _ _ hS12, I.unknown hw.w hfa hsb hle, rfl⟩
theorem ok_common {P : Program} {w : World} {K : PySem.W.Frag} {mg : Str → Option Value} {base : Heap} {cAnswer cKnown cUnknown cWebError cTooFew : Addr} (T : Txt K mg cAnswer cKnown cUnknown cWebError cTooFew) (D : At K mg "common" s_common ["one", "other"])  : Has P w K mg base CX0 1 "common" ["one", "other"] (sp_common K) := by
  refine has_of D sc_common (fun vs H Q E h => ?_) (fun f cdv A outer s H vs Q E hr h => ?_)
  · obtain ⟨a, b, rfl, _⟩ := h
    rfl
  · obtain ⟨a, b, rfl, hq⟩ := h
    refine ⟨_, (pss_cons (ps_while PassesOwn.never (pt_cmpR op_ne (pv 1) pe_int (nomark _)) (pss_one (ps_par (i := 0) (j := 1) rfl sc_common.nd rfl rfl (by decide) rfl rfl (pa_cons (pv 1) (pa_cons (pe_op op_mod (pv 0) (pv 1)) pa_nil)) (by rfl))))
      (pss_one (ps_ret (pv 0)))), ?_⟩
    refine q_while (fun m σ' H' => Ex H H' ∧ ∃ x : Nat, Nat.gcd x m = Nat.gcd a b ∧ σ' = [some (.int (x : Nat)), some (.int (m : Nat))]) b ⟨Ex.refl _, a, rfl, rfl⟩ fun y σ' H' p => ?_
    obtain ⟨ex, x, hx, rfl⟩ := p
    refine ⟨!decide ((y : Int) = 0), et_test (ev_neI (ev_var rfl) ev_c), fun hb H2 e2 => ?_, fun hb H2 e2 => ?_⟩
    · have hy : 0 < y := by
        rw [Bool.not_eq_true', decide_eq_false_iff_not] at hb
        omega
      refine ⟨fun σ2 H3 => Ex H H3 ∧ ∃ x' : Nat, Nat.gcd x' (x % y) = Nat.gcd a b ∧ σ2 = [some (.int (x' : Nat)), some (.int ((x % y : Nat) : Nat))], fun σ2 H3 q => ⟨x % y, Nat.mod_lt _ hy, q⟩, ?_⟩
      exact s_par (v := .int (y : Nat)) (w := .int ((x % y : Nat) : Nat)) (ea_cons (ev_var rfl) (ea_cons (ev_is (ev_mod (ev_var rfl) (ev_var rfl) (by omega)) (by rw [Int.natCast_emod])) ea_nil)) fun H4 e4 => ⟨(ex.trans e2).trans e4, y, by rw [gcd_turn, hx], rfl⟩
    · have hy : y = 0 := by
        rw [Bool.not_eq_false', decide_eq_true_eq] at hb
        omega
      subst hy
      rw [Nat.gcd_zero_right] at hx
      rw [← hx] at hq
      exact s_ret (ev_var rfl) fun H3 e3 => hq H3 ((ex.trans e2).trans e3)
theorem ok_promised_by {P : Program} {w : World} {K : PySem.W.Frag} {mg : Str → Option Value} {base : Heap} {cAnswer cKnown cUnknown cWebError cTooFew : Addr} (T : Txt K mg cAnswer cKnown cUnknown cWebError cTooFew) (D : At K mg "promised_by" s_promised_by ["web"]) (h_common : Has P w K mg base CX0 1 "common" ["one", "other"] (sp_common K)) : Has P w K mg base CX0 2 "promised_by" ["web"] (sp_promised_by K) := by
  refine has_of D sc_promised_by (fun vs H Q E h => ?_) (fun f cdv A outer s H vs Q E hr h => ?_)
  · obtain ⟨a, n, k, rfl, _⟩ := h
    rfl
  · obtain ⟨a, n, k, rfl, hw, hq⟩ := h
    have hn := hw.le
    refine ⟨_, (pss_cons (ps_asg (pe_tup (pa_cons pe_int (pa_cons pe_int pa_nil))) (pg_tupK (n := 2) K rfl (pgs_cons (nm 1 sc_promised_by.nd) (pgs_cons (nm 2 sc_promised_by.nd) pgs_nil))))
      (pss_cons (ps_for PassesOwn.never rfl (pi_listK K (pv 0)) (nm 3 sc_promised_by.nd) (pss_cons (st_ 4 sc_promised_by.nd (pe_op op_add (bmK K PySem.F.plainAttrs_str PySem.F.slot_str_count PySem.F.type_str_count mt_cnt (pv 3) (pa_cons pe_str pa_nil)) pe_int))
      (pss_cons (ps_par (i := 1) (j := 2) rfl sc_promised_by.nd rfl rfl (by decide) rfl rfl (pa_cons (pe_op op_add (pe_op op_mulA (pv 1) (pv 4)) (pv 2)) (pa_cons (pe_op op_mulA (pv 2) (pv 4)) pa_nil)) (by rfl))
      (pss_cons (st_ 5 sc_promised_by.nd (hcall h_common (hr.mono (by decide)) (pa_cons (pv 1) (pa_cons (pv 2) pa_nil))))
      (pss_one (ps_par (i := 1) (j := 2) rfl sc_promised_by.nd rfl rfl (by decide) rfl rfl (pa_cons (pe_op op_fdiv (pv 1) (pv 5)) (pa_cons (pe_op op_fdiv (pv 2) (pv 5)) pa_nil)) (by rfl)))))))
      (pss_one (ps_ret (pe_tup (pa_cons (pv 1) (pa_cons (pv 2) pa_nil))))))), ?_⟩
    refine q_asgT2 (x := .int ((frac n k 0).1 : Nat)) (y := .int ((frac n k 0).2 : Nat)) (eu_tup (ea_cons ev_c (ea_cons ev_c ea_nil)) (by simp)) fun H1 e1 => ?_
    refine q_for (Hw := H) (ew_web hw.seq e1 (ev_var rfl)) (fun i σ' H' => Ex H H' ∧ ∃ u v w, σ' = [some (.ref a), some (.int ((frac n k i).1 : Nat)), some (.int ((frac n k i).2 : Nat)), u, v, w]) (fun H2 e2 => ⟨e1.trans e2, _, _, _, rfl⟩) (fun i σ' H' _ p => p.1) (fun i σ' H' hi p => ?_) fun σ' H' p => ?_
    · obtain ⟨ex, u, v, w, rfl⟩ := p
      have hf := frOk hw.w (i := i) (by omega)
      have hd := dgN_lt hw.w hi
      have hdc := dgN_eq n k i
      have e1 : (frac n k (i + 1)) = frStep (frac n k i).1 (frac n k i).2 (dgN n k i + 1) := rfl
      have hg := gcd_small (m := dgN n k i + 1) hf.cop (by omega)
      rw [e1]
      unfold frStep
      have hp := hf.pos
      generalize (frac n k i).1 = x at hg ⊢
      generalize (frac n k i).2 = y at hg hp ⊢
      generalize hm : dgN n k i + 1 = m at hg hd ⊢
      have hg0 : 0 < Nat.gcd (x * m + y) (y * m) := Nat.gcd_pos_of_pos_right _ (Nat.mul_pos hp (by omega))
      have hmm : m * m ≤ 200 * 200 := Nat.mul_le_mul (by omega) (by omega)
      refine q_asg (v := .int (m : Nat)) (ev_is (ev_op (ev_cntRow (ev_var rfl) ev_c) ev_c rv_I0) (congrArg V.int (by show deg n k i + 1 = _; omega))) fun H2 e2 => ?_
      refine q_par (v := .int ((x * m + y : Nat) : Nat)) (w := .int ((y * m : Nat) : Nat)) (ea_cons (ev_is (ev_op (ev_mulA (ev_var rfl) (ev_var rfl) (mul_small (.inr (by omega)))) (ev_var rfl) rv_I0) (by rw [Int.natCast_add, Int.natCast_mul])) (ea_cons (ev_is (ev_mulA (ev_var rfl) (ev_var rfl) (mul_small (.inr (by omega)))) (by rw [Int.natCast_mul])) ea_nil)) fun H3 e3 => ?_
      refine q_asg (ev_hc (ea_cons (ev_var rfl) (ea_cons (ev_var rfl) ea_nil)) spv_common) fun H4 e4 => ?_
      refine s_par (v := .int (((x * m + y) / Nat.gcd (x * m + y) (y * m) : Nat) : Nat)) (w := .int ((y * m / Nat.gcd (x * m + y) (y * m) : Nat) : Nat)) (ea_cons (ev_is (ev_fdiv (ev_var rfl) (ev_var rfl) ⟨by omega, by omega⟩) (by rw [Int.natCast_ediv])) (ea_cons (ev_is (ev_fdiv (ev_var rfl) (ev_var rfl) ⟨by omega, by omega⟩) (by rw [Int.natCast_ediv])) ea_nil)) fun H5 e5 => ⟨(((ex.trans e2).trans e3).trans e4).trans e5, _, _, _, rfl⟩
    obtain ⟨ex, u, v, w, rfl⟩ := p
    exact s_retU (eu_tup (ea_cons (ev_var rfl) (ea_cons (ev_var rfl) ea_nil)) (by simp)) fun p H9 hp e9 hp9 => hq p H9 (fresh_back ex hp) (ex.trans e9) hp9
theorem ok_promised {P : Program} {w : World} {K : PySem.W.Frag} {mg : Str → Option Value} {base : Heap} {cAnswer cKnown cUnknown cWebError cTooFew : Addr} (T : Txt K mg cAnswer cKnown cUnknown cWebError cTooFew) (D : At K mg "promised" s_promised ["web"]) (h_asked_web : Has P w K mg base CX0 1 "asked_web" ["web"] (sp_asked_web K)) (h_promised_by : Has P w K mg base CX0 2 "promised_by" ["web"] (sp_promised_by K)) : Has P w K mg base CX0 3 "promised" ["web"] (sp_promised K) := by
  refine has_of D sc_promised (fun vs H Q E h => ?_) (fun f cdv A outer s H vs Q E hr h => ?_)
  · obtain ⟨a, n, k, rfl, _⟩ := h
    rfl
  · obtain ⟨a, n, k, rfl, hw, hq⟩ := h
    refine ⟨_, (pss_cons (ps_expr (hcall h_asked_web (hr.mono (by decide)) (pa_cons (pv 0) pa_nil)))
      (pss_one (ps_ret (hcall h_promised_by (hr.mono (by decide)) (pa_cons (pv 0) pa_nil))))), ?_⟩
    refine q_drop (ev_hc (ea_cons (ev_var rfl) ea_nil) (spv_asked_web hw)) fun H1 e1 => ?_
    exact s_retU (eu_hc (ea_cons (ev_var rfl) ea_nil) (spu_promised_by (hw.ex e1))) fun p H9 hp e9 hp9 => hq p H9 (fresh_back e1 hp) (e1.trans e9) hp9
theorem ok_strangers_of {P : Program} {w : World} {K : PySem.W.Frag} {mg : Str → Option Value} {base : Heap} {cAnswer cKnown cUnknown cWebError cTooFew : Addr} (T : Txt K mg cAnswer cKnown cUnknown cWebError cTooFew) (D : At K mg "strangers_of" s_strangers_of ["web"])  : Has P w K mg base CX0 1 "strangers_of" ["web"] (sp_strangers_of K) := by
  refine has_of D sc_strangers_of (fun vs H Q E h => ?_) (fun f cdv A outer s H vs Q E hr h => ?_)
  · obtain ⟨a, n, k, rfl, _⟩ := h
    rfl
  · obtain ⟨a, n, k, rfl, hw, hq⟩ := h
    have hn := hw.le
    refine ⟨_, (pss_cons (st_ 1 sc_strangers_of.nd (pe_listRg rfl (by rfl) T.n_list (prg_1 (by rfl) T.n_range (pe_callB (cr_lenK K) (by rfl) T.n_len (by decide +kernel) (pa_cons (pv 0) pa_nil)))))
      (pss_cons (st_ 2 sc_strangers_of.nd (pe_lst pa_nil))
      (pss_cons (ps_while PassesOwn.never (pt_cmpR (op_neDK K hr.units) (pv 1) (pe_lst pa_nil) (nomark _)) (pss_cons (ps_setLc (i := 3) (own := [("one", 4)]) rfl sc_strangers_of.nd rfl rfl (sw_true rfl rfl rfl (by decide +kernel)) (pi_listK K (pv 1)) (blkOk_by (by kernel_rfl)) (fun _ _ _ _ _ => (nm 4 sc_strangers_of.nd)) (fun _ _ _ _ _ => pts_nil) (fun _ _ _ _ _ => (pe_callB (cr_lenK K) (by rfl) T.n_len (by decide +kernel) (pa_cons (pe_lc (own := [("other", 5)]) rfl sc_strangers_of.nd (pi_listK K (pv 1)) (blkOk_by (by kernel_rfl)) (fun _ _ _ _ _ => (nm 5 sc_strangers_of.nd)) (fun _ _ _ _ _ => pts_one (pt_cmpR op_eq (pe_ix ix_str (pe_ix (ix_listK K) (pv 0) (pv 4) (fun _ _ => rfl)) (pv 5) (fun _ _ => rfl)) pe_str (nomark _))) (fun _ _ _ _ _ => (pv 5))) pa_nil))))
      (pss_cons (st_ 4 sc_strangers_of.nd (pe_ix (ix_listK K) (pv 1) (bmK K PySem.F.plainAttrs_list PySem.F.slot_list_index PySem.F.type_list_index (mt_indexK K) (pv 3) (pa_cons (pe_callB (cr_minK1 K rfl) (by rfl) T.n_min (by decide +kernel) (pa_cons (pv 3) pa_nil)) pa_nil)) (fun _ _ => rfl)))
      (pss_cons (ps_expr (bmK K PySem.F.plainAttrs_list PySem.F.slot_list_append PySem.F.type_list_append mt_append (pv 2) (pa_cons (pv 4) pa_nil)))
      (pss_one (st_ 1 sc_strangers_of.nd (pe_lc (own := [("other", 5)]) rfl sc_strangers_of.nd (pi_listK K (pv 1)) (blkOk_by (by kernel_rfl)) (fun _ _ _ _ _ => (nm 5 sc_strangers_of.nd)) (fun _ _ _ _ _ => pts_one (PW.pt (pw_and (pt_cmpR op_ne (pv 5) (pv 4) (nomark _)) (pw_and1 (pt_cmpR op_eq (pe_ix ix_str (pe_ix (ix_listK K) (pv 0) (pv 4) (fun _ _ => rfl)) (pv 5) (fun _ _ => rfl)) pe_str (nomark _)))))) (fun _ _ _ _ _ => (pv 5)))))))))
      (pss_one (ps_ret (pe_callB (cr_sortedK K) (by rfl) T.n_sorted (by decide +kernel) (pa_cons (pv 2) pa_nil))))))), ?_⟩
    refine q_asgL (el_listRg (ev_lenW hw.seq (Ex.refl _) (ev_var rfl)) (by omega)) fun lp0 H1 hl0 e1 hl1 => ?_
    refine q_asgL (el_lst ea_nil (by decide)) fun s H2 hs0 e2 hs2 => ?_
    have n0 : lp0 ≠ s := fun z => by rw [← z, hl1] at hs0; cases hs0
    refine q_while (fun m σ' H' => Ex H H' ∧ ∃ left lp S u v, m = left.length ∧ lp ≠ s ∧ H' lp = some (.lst (natsV left)) ∧ H' s = some (.lst (natsV S)) ∧ StrInv n k left S ∧ σ' = [some (.ref a), some (.ref lp), some (.ref s), u, v, none]) (List.range n).length
      ⟨e1.trans e2, _, _, [], _, _, rfl, n0, e2 _ _ hl1, hs2, .start n k, rfl⟩ fun m σ' H' p => ?_
    obtain ⟨ex, left, lp, S, u, v, rfl, nls, hlp, hS, I, rfl⟩ := p
    have hL : SqL K H' lp (natsV left) := SqL.of hlp
    have ew : ∀ {te : TE} {σ : St} {H3 : Hp}, Ex H' H3 → Ev te σ H3 (.ref lp) → EvW (iList K te) σ H3 H3 left.length (fun i => V.int (left.getD i 0 : Nat)) := fun e he => (ew_list he (ex_l e hL) (Ex.refl _)).of_eq (natsV_len left) fun i hi => natsV_at (by rw [natsV_len] at hi; exact hi)
    have lenl : left.length ≤ 200 := by have := I.len; omega
    refine ⟨!decide ((left.map fun (i : Nat) => (i : Int)) = []), et_test (ev_neQI (ms := []) (EvQ.of_ev (ev_var rfl) (natsV_ints left ▸ hL) (Ex.refl _)) (EvQ.of_el (el_lst ea_nil (by decide)))), fun hb H3 e3 => ?_, fun hb H3 e3 => ?_⟩
    rotate_left
    · have : left = [] := by
        rw [Bool.not_eq_false', decide_eq_true_eq] at hb
        simpa using hb
      subst this
      have hS3 := natsV_ints S ▸ e3 _ _ hS
      refine el_sortedP (EvQ.of_ev (ev_var rfl) (SqL.of hS3) (Ex.refl _)) H3 (Ex.refl _) _ fun r H4 xs hP hr0 e4 hr => ?_
      obtain ⟨ms, hpm, hsrt, rfl⟩ := hP
      exact hq _ (I.done hpm hsrt) r H4 (fresh_back (ex.trans e3) hr0) ((ex.trans e3).trans e4) hr
    have lne : left ≠ [] := by
      rw [Bool.not_eq_true', decide_eq_false_iff_not] at hb
      exact fun z => hb (by rw [z]; rfl)
    refine ⟨fun σ2 H4 => Ex H H4 ∧ ∃ left' lp S u v, left'.length < left.length ∧ lp ≠ s ∧ H4 lp = some (.lst (natsV left')) ∧ H4 s = some (.lst (natsV S)) ∧ StrInv n k left' S ∧ σ2 = [some (.ref a), some (.ref lp), some (.ref s), u, v, none], fun σ2 H4 ⟨e, l', lp', S', u', v', h1, h2⟩ => ⟨l'.length, h1, e, l', lp', S', u', v', rfl, h2⟩, ?_⟩
    generalize hcnt : (fun u => ((left.filter (k u)).length : Int)) = cnt
    have hc : ∀ u, cnt u = ((left.filter (k u)).length : Int) := fun u => by rw [← hcnt]
    refine q_asgL (xs := (left.map cnt).map V.int) (el_is (el_map (fun i => V.int (cnt (left.getD i 0))) (ew e3 (ev_var rfl)) (by omega) (fun _ => rfl) fun i H4 e4 hi => ?_) (by rw [List.map_map]; exact map_getD 0 (fun x => V.int (cnt x)) left)) fun c H4 hc0 e4 hc4 => ?_
    · refine ev_is (ev_lenQ (EvQ.of_el (el_is (el_lc (fun j => k (left.getD i 0) (left.getD j 0)) (fun j => V.int (left.getD j 0 : Nat)) (ew (e3.trans e4) (ev_var rfl)) (by omega) (fun _ => rfl) (fun j H5 e5 hj => et_test (ev_eqX (ev_cell hw.seq (((ex.trans e3).trans e4).trans e5) hn (ev_var rfl) (ev_var rfl) (ev_var rfl) (I.lt _ (getD_mem hi)) (I.lt _ (getD_mem hj))) ev_c)) fun j H5 e5 hj _ => ev_var rfl) (given_filter 0 (k (left.getD i 0)) (fun x => V.int (x : Nat)) left)))) ?_
      rw [hc, List.length_map]
    have cne : left.map cnt ≠ [] := by simpa using lne
    obtain ⟨M, hM1, hM2⟩ := least cne
    obtain ⟨j, hj1, hj2⟩ := first_at hM1
    have hjl : j < left.length := by
      have := (List.getElem?_eq_some_iff.mp hj1).1
      rwa [List.length_map] at this
    have hone : left[j]? = some left[j] := List.getElem?_eq_getElem hjl
    have hmem : left[j] ∈ left := List.getElem_mem hjl
    have hMj : cnt left[j] = M := by
      rw [List.getElem?_map, hone] at hj1
      simpa using hj1
    generalize left[j] = one at hone hmem hMj
    have hmin : ∀ u ∈ left, (left.filter (k one)).length ≤ (left.filter (k u)).length := by
      intro u hu
      have := hM2 (cnt u) (List.mem_map.mpr ⟨u, hu, rfl⟩)
      rw [← hMj, hc, hc] at this
      omega
    have hL4 : SqL K H4 lp (natsV left) := ex_l (e3.trans e4) hL
    refine q_asg (v := .int (one : Nat)) (ev_op (ev_var rfl) (ev_index (ev_var rfl) (SqL.of hc4) (Ex.refl _) (ev_minQ (EvQ.of_ev (ev_var rfl) (SqL.of hc4) (Ex.refl _)) hM1 hM2) hj1 hj2) (rv_ixL hL4 (atI_nat (by unfold natsV; rw [List.getElem?_map, hone]; rfl)))) fun H5 e5 => ?_
    have e35 := (e3.trans e4).trans e5
    refine q_app (e35 _ _ hS) (ev_var rfl) (ev_var rfl) (by rw [natsV_len]; have := I.len; omega) fun H6 e6 => ?_
    have eS : natsV S ++ [V.int (one : Nat)] = natsV (S ++ [one]) := by unfold natsV; rw [List.map_append]; rfl
    rw [eS]
    have hlp7 : (upd H6 s (.lst (natsV (S ++ [one])))) lp = some (.lst (natsV left)) := by rw [upd_ne nls]; exact e6 _ _ (e35 _ _ hlp)
    have ex7 : Ex H (upd H6 s (.lst (natsV (S ++ [one])))) := Ex.mut ((ex.trans e35).trans e6) (fresh_back e1 hs0)
    refine s_asgL (xs := natsV (left.filter fun o => o != one && !k one o)) (el_is (el_lc (fun j => left.getD j 0 != one && !k one (left.getD j 0)) (fun j => V.int (left.getD j 0 : Nat)) ((ew_list (ev_var rfl) (SqL.of hlp7) (Ex.refl _)).of_eq (natsV_len left) fun i hi => natsV_at (by rw [natsV_len] at hi; exact hi)) (by omega) (fun _ => rfl)
      (fun j H8 e8 hj => et_and (et_is (et_test (ev_neI (ev_var rfl) (ev_var rfl))) (neNat _ _)) fun _ => et_test (ev_eqD (ev_cell hw.seq (ex7.trans e8) hn (ev_var rfl) (ev_var rfl) (ev_var rfl) (I.lt _ hmem) (I.lt _ (getD_mem hj))) ev_c)) fun j H8 e8 hj _ => ev_var rfl) (given_filter 0 (fun o => o != one && !k one o) (fun x => V.int (x : Nat)) left)) fun lp' H8 hlp0 e8 hlp8 => ?_
    refine ⟨ex7.trans e8, _, lp', S ++ [one], _, _, List.length_filter_lt_length_iff_exists.mpr ⟨one, hmem, by simp⟩, fun z => ?_, hlp8, e8 _ _ upd_same, I.step hw.w hmem hmin, rfl⟩
    rw [z, upd_same] at hlp0
    cases hlp0
theorem ok_strangers {P : Program} {w : World} {K : PySem.W.Frag} {mg : Str → Option Value} {base : Heap} {cAnswer cKnown cUnknown cWebError cTooFew : Addr} (T : Txt K mg cAnswer cKnown cUnknown cWebError cTooFew) (D : At K mg "strangers" s_strangers ["web"]) (h_asked_web : Has P w K mg base CX0 1 "asked_web" ["web"] (sp_asked_web K)) (C_Unknown : HasMk P w K mg base CX0 1 "Unknown" cUnknown ["self", "people"] (sp_Unknown___init__ K cUnknown)) (h_strangers_of : Has P w K mg base CX0 1 "strangers_of" ["web"] (sp_strangers_of K)) : Has P w K mg base CX0 3 "strangers" ["web"] (sp_strangers K cUnknown) := by
  refine has_of D sc_strangers (fun vs H Q E h => ?_) (fun f cdv A outer s H vs Q E hr h => ?_)
  · obtain ⟨a, n, k, rfl, _⟩ := h
    rfl
  · obtain ⟨a, n, k, rfl, hw, hq⟩ := h
    refine ⟨_, (pss_cons (ps_expr (hcall h_asked_web (hr.mono (by decide)) (pa_cons (pv 0) pa_nil)))
      (pss_one (ps_ret (hmake C_Unknown (hr.mono (by decide)) (pa_cons (hcall h_strangers_of (hr.mono (by decide)) (pa_cons (pv 0) pa_nil)) pa_nil))))), ?_⟩
    refine q_drop (ev_hc (ea_cons (ev_var rfl) ea_nil) (spv_asked_web hw)) fun H1 e1 => ?_
    exact s_retMP (em_makeP (elp_strangers_of (ea_cons (ev_var rfl) ea_nil) (hw.ex e1))) fun x H2 xs hP e2 hA => by
      obtain ⟨ps, hG, rfl⟩ := hP
      exact hq ps x H2 hG (e1.trans e2) (hA.low e1)
theorem ok_friends {P : Program} {w : World} {K : PySem.W.Frag} {mg : Str → Option Value} {base : Heap} {cAnswer cKnown cUnknown cWebError cTooFew : Addr} (T : Txt K mg cAnswer cKnown cUnknown cWebError cTooFew) (D : At K mg "friends" s_friends ["web"]) (h_asked_web : Has P w K mg base CX0 1 "asked_web" ["web"] (sp_asked_web K)) (C_Known : HasMk P w K mg base CX0 1 "Known" cKnown ["self", "people"] (sp_Known___init__ K cKnown)) (h_strangers_of : Has P w K mg base CX0 1 "strangers_of" ["web"] (sp_strangers_of K)) (h_turned_of : Has P w K mg base CX0 1 "turned_of" ["web"] (sp_turned_of K)) : Has P w K mg base CX0 3 "friends" ["web"] (sp_friends K cKnown) := by
  refine has_of D sc_friends (fun vs H Q E h => ?_) (fun f cdv A outer s H vs Q E hr h => ?_)
  · obtain ⟨a, n, k, rfl, _⟩ := h
    rfl
  · obtain ⟨a, n, k, rfl, hw, hq⟩ := h
    refine ⟨_, (pss_cons (ps_expr (hcall h_asked_web (hr.mono (by decide)) (pa_cons (pv 0) pa_nil)))
      (pss_one (ps_ret (hmake C_Known (hr.mono (by decide)) (pa_cons (hcall h_strangers_of (hr.mono (by decide)) (pa_cons (hcall h_turned_of (hr.mono (by decide)) (pa_cons (pv 0) pa_nil)) pa_nil)) pa_nil))))), ?_⟩
    refine q_drop (ev_hc (ea_cons (ev_var rfl) ea_nil) (spv_asked_web hw)) fun H1 e1 => ?_
    exact s_retMP (em_makeP (elp_strangers_ofL (el_hc (ea_cons (ev_var rfl) ea_nil) (spl_turned_of (hw.ex e1))) hw.w.turn hw.le)) fun x H2 xs hP e2 hA => by
      obtain ⟨ps, hG, rfl⟩ := hP
      exact hq ps x H2 hG (e1.trans e2) (hA.low e1)
theorem ok_law_number {P : Program} {w : World} {K : PySem.W.Frag} {mg : Str → Option Value} {base : Heap} {cAnswer cKnown cUnknown cWebError cTooFew : Addr} (T : Txt K mg cAnswer cKnown cUnknown cWebError cTooFew) (D : At K mg "_law_number" s_law_number ["_law_cell", "_law_at", "_law_whole"])  : Has P w K mg base CX0 1 "_law_number" ["_law_cell", "_law_at", "_law_whole"] (sp_law_number K) := by
  refine has_of D sc_law_number (fun vs H Q E h => ?_) (fun f cdv A outer s H vs Q E hr h => ?_)
  · obtain ⟨c, a, w, rfl, _⟩ := h
    rfl
  · obtain ⟨c, a, w, rfl, hc, h0, h1, hq⟩ := h
    refine ⟨_, (pss_cons (ps_if (pt_cmpR op_ge (pv 0) (pe_op op_pow pe_int pe_int) (nomark _)) (pss_one (ps_ret (pe_op op_fdiv (pv 0) (pe_op op_add pe_int (pe_op op_mod (pv 1) pe_int))))) pss_nil)
      (pss_cons (st_ 3 sc_law_number.nd (pe_op op_mod (pe_op op_add (pe_op op_mulA (pe_op op_add (pv 0) (pe_op op_mulA pe_int (pv 1))) pe_int) (pv 2)) pe_int))
      (pss_cons (st_ 4 sc_law_number.nd (pe_op op_mulA (pv 3) (pe_op op_add (pe_op op_add (pv 0) (pe_op op_mulA pe_int (pv 1))) pe_int)))
      (pss_one (ps_ret (pe_op op_fdiv (pe_op op_mulA (pe_op op_mulA (pv 4) (pe_op op_add (pe_op op_add (pv 3) (pv 0)) pe_int)) (pe_op op_add (pe_op op_mulA (pv 3) (pv 3)) pe_int)) (pe_op op_add pe_int (pv 1)))))))), ?_⟩
    have p18 : ((10 : Int) ^ (18 : Int).toNat) = 10 ^ 18 := rfl
    refine q_when (b := decide (10 ^ 18 ≤ c)) (et_test (ev_op (ev_var rfl) (ev_op ev_c ev_c (rv_I ⟨by decide, by decide, by decide⟩)) rv_I0)) (fun hb H1 e1 => ?_) fun hb H1 e1 => ?_
    · have hb' := of_decide_eq_true hb
      have e : lawNum7 c a w = c / (1 + a % 7) := by unfold lawNum7; rw [if_pos hb']
      refine s_ret (ev_fdiv (ev_var rfl) (ev_op ev_c (ev_mod (ev_var rfl) ev_c (by decide)) rv_I0) ⟨by omega, by omega⟩) fun H2 e2 => ?_
      have := hq H2 (e1.trans e2)
      rw [e] at this
      exact this
    · have hb' := of_decide_eq_false hb
      have bs : ∀ x : Int, -4294967296 < x → x < 4294967296 → Bt 1100000 x := fun x a b => Bt.small _ a b
      have b1 : Bt 1100001 (c + 977 * a) := hc.add (bs _ (by omega) (by omega))
      refine q_asg (ev_mod (ev_op (ev_mulA (ev_op (ev_var rfl) (ev_mulA ev_c (ev_var rfl) (mul_small (.inl (by decide)))) rv_I0) ev_c (mul_small (.inr (by decide)))) (ev_var rfl) rv_I0) ev_c (by decide)) fun H2 e2 => ?_
      generalize hm : ((c + 977 * a) * 48271 + w) % 2147483647 = m
      have m0 : 0 ≤ m := by rw [← hm]; exact Int.emod_nonneg _ (by decide)
      have m1 : m < 2147483647 := by rw [← hm]; exact Int.emod_lt_of_pos _ (by decide)
      have b2 : Bt 1100002 (c + 31 * a + 7) := ((hc.add (bs _ (by omega) (by omega))).add ((bs _ (by omega) (by omega)).mono (by decide)))
      refine q_asg (ev_mulA (ev_var rfl) (ev_op (ev_op (ev_var rfl) (ev_mulA ev_c (ev_var rfl) (mul_small (.inl (by decide)))) rv_I0) ev_c rv_I0) (mul_small (.inl (by omega)))) fun H3 e3 => ?_
      have b3 : Bt 1100100 (m * (c + 31 * a + 7)) := ((Bt.small 32 (by omega) (by omega) : Bt 32 m).mul b2).mono (by decide)
      have b4 : Bt 1100002 (m + c + 5) := (((bs _ (by omega) (by omega)).add hc).add ((bs _ (by omega) (by omega)).mono (by decide)))
      have b5 : Bt 2200200 (m * (c + 31 * a + 7) * (m + c + 5)) := (b3.mul b4).mono (by decide)
      have b6 : Bt 100 (m * m + 11) := ((((Bt.small 32 (by omega) (by omega) : Bt 32 m).mul (Bt.small 32 (by omega) (by omega) : Bt 32 m))).add (Bt.small 64 (by omega) (by omega))).mono (by decide)
      refine s_ret (ev_fdiv (ev_mulA (ev_mulA (ev_var rfl) (ev_op (ev_op (ev_var rfl) (ev_var rfl) rv_I0) ev_c rv_I0) (b3.ok b4)) (ev_op (ev_mulA (ev_var rfl) (ev_var rfl) (mul_small (.inl (by omega)))) ev_c rv_I0) (b5.ok b6)) (ev_op ev_c (ev_var rfl) rv_I0) ⟨by omega, by omega⟩) fun H4 e4 => ?_
      have e : lawNum7 c a w = m * (c + 31 * a + 7) * (m + c + 5) * (m * m + 11) / (1009 + a) := by unfold lawNum7 lawNum; rw [if_neg hb', if_neg hb', hm]
      have := hq H4 (((e1.trans e2).trans e3).trans e4)
      rw [e] at this
      exact this
theorem plain_base {P : Program} {w : World} {K : PySem.W.Frag} {mg : Str → Option Value} {base : Heap} {cAnswer cKnown cUnknown cWebError cTooFew : Addr} (T : Txt K mg cAnswer cKnown cUnknown cWebError cTooFew) (D : At K mg "_law_plain" s_law_plain ["_law_thing"])  : Has P w K mg base CX0 1 "_law_plain" ["_law_thing"] (sp_law_plain K 0) := by
  have flat : ∀ {σ : St} {H1 : Hp} {D : Ends} {v : V} {s : String}, σ[0]? = some (some v) → Sm H1 v s → isT s "list" = false → isT s "tuple" = false → (v = .non ∨ isT s "str" = true ∨ (isT s "int" = true ∧ isT s "bool" = false)) → (∀ H2, Ex H1 H2 → D.rt (.bl true) H2) →
      ∀ {tu : TS}, tSeq (tIfS (tOr (tB (tCB (rIsi K) (tCons (tVar 0) (tCons (tC (.ty "list")) tNil)))) (tB (tCB (rIsi K) (tCons (tVar 0) (tCons (tC (.ty "tuple")) tNil))))) tu tNext) (tRet (tOrV (tOp rIsN (tVar 0) (tC .non)) (tOrV (tCB (rIsi K) (tCons (tVar 0) (tCons (tC (.ty "str")) tNil))) (tAndV (tCB (rIsi K) (tCons (tVar 0) (tCons (tC (.ty "int")) tNil))) (tNotV (tCB (rIsi K) (tCons (tVar 0) (tCons (tC (.ty "bool")) tNil)))))))) D σ H1 := fun h0 hs h1 h2 h3 hq tu => by
    refine q_when (b := false) (et_is (et_or (et_B (ev_isSm2 (ev_var h0) hs (Ex.refl _) (by simp))) fun _ => et_B (ev_isSm2 (ev_var h0) hs (Ex.refl _) (by simp))) (by rw [h1, h2]; rfl)) (bl_false rfl) fun _ H2 e2 => ?_
    refine s_ret (ev_is (ev_orV (ev_isN (ev_var h0) ev_c) fun _ => ev_orV (ev_isSm2 (ev_var h0) hs e2 (by simp)) fun _ => ev_andV (ev_isSm2 (ev_var h0) hs e2 (by simp)) fun _ => ev_notV (ev_isSm2 (ev_var h0) hs e2 (by simp))) ?_) fun H3 e3 => hq H3 (e2.trans e3)
    rcases h3 with h3 | h3 | ⟨h3, h4⟩
    · rw [h3]; simp
    · rw [h3]; simp
    · rw [h3, h4]; simp
  refine has_of D sc_law_plain (fun vs H Q E h => ?_) (fun f cdv A outer s H vs Q E hr h => ?_)
  · obtain ⟨v, rfl, _⟩ := h
    rfl
  · obtain ⟨v, rfl, hp, hq⟩ := h
    refine ⟨_, (pss_cons (ps_if (PW.pt (pw_or (pt_val (pe_callB (cr_isiK K) (by rfl) T.n_isinstance (by decide +kernel) (pa_cons (pv 0) (pa_cons (bty "list" T.n_list (by decide +kernel)) pa_nil)))) (pw_or1 (pt_val (pe_callB (cr_isiK K) (by rfl) T.n_isinstance (by decide +kernel) (pa_cons (pv 0) (pa_cons (bty "tuple" T.n_tuple (by decide +kernel)) pa_nil))))))) (pss_one ps_never) pss_nil)
      (pss_one (ps_ret (pe_or (pe_cmpR op_isNn (pv 0) pe_non (nomark _)) (pe_or (pe_callB (cr_isiK K) (by rfl) T.n_isinstance (by decide +kernel) (pa_cons (pv 0) (pa_cons (bty "str" T.n_str (by decide +kernel)) pa_nil))) (pe_one (pe_and (pe_callB (cr_isiK K) (by rfl) T.n_isinstance (by decide +kernel) (pa_cons (pv 0) (pa_cons (bty "int" T.n_int (by decide +kernel)) pa_nil))) (pe_one (pe_not (pe_callB (cr_isiK K) (by rfl) T.n_isinstance (by decide +kernel) (pa_cons (pv 0) (pa_cons (bty "bool" T.n_bool (by decide +kernel)) pa_nil)))))))))))), ?_⟩
    cases hp with
    | non => exact flat rfl .non (by decide) (by decide) (.inl rfl) fun H2 e2 => hq H2 e2
    | int _ i => exact flat rfl (.int i) (by decide) (by decide) (.inr (.inr ⟨by decide, by decide⟩)) fun H2 e2 => hq H2 e2
    | str _ z => exact flat rfl (.str z) (by decide) (by decide) (.inr (.inl (by decide))) fun H2 e2 => hq H2 e2
theorem plain_step {P : Program} {w : World} {K : PySem.W.Frag} {mg : Str → Option Value} {base : Heap} {cAnswer cKnown cUnknown cWebError cTooFew : Addr} (T : Txt K mg cAnswer cKnown cUnknown cWebError cTooFew) (D : At K mg "_law_plain" s_law_plain ["_law_thing"]) {d : Nat} (h_law_plain : Has P w K mg base CX0 (d + 1) "_law_plain" ["_law_thing"] (sp_law_plain K d)) : Has P w K mg base CX0 (d + 2) "_law_plain" ["_law_thing"] (sp_law_plain K (d + 1)) := by
  have flat : ∀ {σ : St} {H1 : Hp} {D : Ends} {v : V} {s : String}, σ[0]? = some (some v) → Sm H1 v s → isT s "list" = false → isT s "tuple" = false → (v = .non ∨ isT s "str" = true ∨ (isT s "int" = true ∧ isT s "bool" = false)) → (∀ H2, Ex H1 H2 → D.rt (.bl true) H2) →
      ∀ {tu : TS}, tSeq (tIfS (tOr (tB (tCB (rIsi K) (tCons (tVar 0) (tCons (tC (.ty "list")) tNil)))) (tB (tCB (rIsi K) (tCons (tVar 0) (tCons (tC (.ty "tuple")) tNil))))) tu tNext) (tRet (tOrV (tOp rIsN (tVar 0) (tC .non)) (tOrV (tCB (rIsi K) (tCons (tVar 0) (tCons (tC (.ty "str")) tNil))) (tAndV (tCB (rIsi K) (tCons (tVar 0) (tCons (tC (.ty "int")) tNil))) (tNotV (tCB (rIsi K) (tCons (tVar 0) (tCons (tC (.ty "bool")) tNil)))))))) D σ H1 := fun h0 hs h1 h2 h3 hq tu => by
    refine q_when (b := false) (et_is (et_or (et_B (ev_isSm2 (ev_var h0) hs (Ex.refl _) (by simp))) fun _ => et_B (ev_isSm2 (ev_var h0) hs (Ex.refl _) (by simp))) (by rw [h1, h2]; rfl)) (bl_false rfl) fun _ H2 e2 => ?_
    refine s_ret (ev_is (ev_orV (ev_isN (ev_var h0) ev_c) fun _ => ev_orV (ev_isSm2 (ev_var h0) hs e2 (by simp)) fun _ => ev_andV (ev_isSm2 (ev_var h0) hs e2 (by simp)) fun _ => ev_notV (ev_isSm2 (ev_var h0) hs e2 (by simp))) ?_) fun H3 e3 => hq H3 (e2.trans e3)
    rcases h3 with h3 | h3 | ⟨h3, h4⟩
    · rw [h3]; simp
    · rw [h3]; simp
    · rw [h3, h4]; simp
  refine has_of D sc_law_plain (fun vs H Q E h => ?_) (fun f cdv A outer s H vs Q E hr h => ?_)
  · obtain ⟨v, rfl, _⟩ := h
    rfl
  · obtain ⟨v, rfl, hp, hq⟩ := h
    refine ⟨_, (pss_cons (ps_if (PW.pt (pw_or (pt_val (pe_callB (cr_isiK K) (by rfl) T.n_isinstance (by decide +kernel) (pa_cons (pv 0) (pa_cons (bty "list" T.n_list (by decide +kernel)) pa_nil)))) (pw_or1 (pt_val (pe_callB (cr_isiK K) (by rfl) T.n_isinstance (by decide +kernel) (pa_cons (pv 0) (pa_cons (bty "tuple" T.n_tuple (by decide +kernel)) pa_nil))))))) (pss_one (ps_ret (pe_or2 (pe_callB (cr_allK K rfl) (by rfl) T.n_all (by decide +kernel) (pa_cons (pe_lc (own := [("_law_one", 1)]) rfl sc_law_plain.nd (pi_listK K (pv 0)) (blkOk_by (by kernel_rfl)) (fun _ _ _ _ _ => (nm 1 sc_law_plain.nd)) (fun _ _ _ _ _ => pts_nil) (fun _ _ _ _ _ => (hcall h_law_plain (hr.mono (Nat.le_refl _)) (pa_cons (pv 1) pa_nil)))) pa_nil)) (pe_callB (cr_allK K rfl) (by rfl) T.n_all (by decide +kernel) (pa_cons (pe_lc (own := [("_law_one", 1)]) rfl sc_law_plain.nd (pi_tupK K (pv 0)) (blkOk_by (by kernel_rfl)) (fun _ _ _ _ _ => (nm 1 sc_law_plain.nd)) (fun _ _ _ _ _ => pts_nil) (fun _ _ _ _ _ => (hcall h_law_plain (hr.mono (Nat.le_refl _)) (pa_cons (pv 1) pa_nil)))) pa_nil))))) pss_nil)
      (pss_one (ps_ret (pe_or (pe_cmpR op_isNn (pv 0) pe_non (nomark _)) (pe_or (pe_callB (cr_isiK K) (by rfl) T.n_isinstance (by decide +kernel) (pa_cons (pv 0) (pa_cons (bty "str" T.n_str (by decide +kernel)) pa_nil))) (pe_one (pe_and (pe_callB (cr_isiK K) (by rfl) T.n_isinstance (by decide +kernel) (pa_cons (pv 0) (pa_cons (bty "int" T.n_int (by decide +kernel)) pa_nil))) (pe_one (pe_not (pe_callB (cr_isiK K) (by rfl) T.n_isinstance (by decide +kernel) (pa_cons (pv 0) (pa_cons (bty "bool" T.n_bool (by decide +kernel)) pa_nil)))))))))))), ?_⟩
    cases hp with
    | non => exact flat rfl .non (by decide) (by decide) (.inl rfl) fun H2 e2 => hq H2 e2
    | int _ i => exact flat rfl (.int i) (by decide) (by decide) (.inr (.inr ⟨by decide, by decide⟩)) fun H2 e2 => hq H2 e2
    | str _ z => exact flat rfl (.str z) (by decide) (by decide) (.inr (.inl (by decide))) fun H2 e2 => hq H2 e2
    | @lst _ a xs h1 h2 h3 =>
      refine q_when (b := true) (et_is (et_or (b := false) (et_B (ev_isSm2 (ev_var rfl) (.lst h1) (Ex.refl _) (by simp))) fun h => by cases h) (by decide)) (fun _ H2 e2 => ?_) (bl_true rfl)
      refine s_ret (ev_is (ev_or2l (ev_allR (n := xs.length) (g := fun _ => true) (el_map (fun _ => V.bl true) (ew_list (ev_var rfl) (SqL.of (e2 _ _ h1)) (Ex.refl _)) (by omega) (fun _ => rfl) fun i H3 e3 hi => ?_))) (by simp)) fun H3 e3 => hq H3 (e2.trans e3)
      rw [getD_eq (List.getElem?_eq_getElem hi)]
      exact ev_hc (ea_cons (ev_var rfl) ea_nil) (spv_law_plain ((h3 _ (List.getElem_mem hi)).ex (e2.trans e3)))
    | @tup _ a xs h1 h2 h3 =>
      refine q_when (b := true) (et_is (et_or (et_B (ev_isSm2 (ev_var rfl) (.tup h1) (Ex.refl _) (by simp))) fun _ => et_B (ev_isSm2 (ev_var rfl) (.tup h1) (Ex.refl _) (by simp))) (by decide)) (fun _ H2 e2 => ?_) (bl_true rfl)
      refine s_ret (ev_is (ev_or2r (ev_allR (n := xs.length) (g := fun _ => true) (el_map (fun _ => V.bl true) (ew_tup (ev_var rfl) (e2 _ _ h1) (Ex.refl _)) (by omega) (fun _ => rfl) fun i H3 e3 hi => ?_))) (by simp)) fun H3 e3 => hq H3 (e2.trans e3)
      rw [getD_eq (List.getElem?_eq_getElem hi)]
      exact ev_hc (ea_cons (ev_var rfl) ea_nil) (spv_law_plain ((h3 _ (List.getElem_mem hi)).ex (e2.trans e3)))
theorem ok_law_plain {P : Program} {w : World} {K : PySem.W.Frag} {mg : Str → Option Value} {base : Heap} {cAnswer cKnown cUnknown cWebError cTooFew : Addr} (T : Txt K mg cAnswer cKnown cUnknown cWebError cTooFew) (D : At K mg "_law_plain" s_law_plain ["_law_thing"]) : Has P w K mg base CX0 3 "_law_plain" ["_law_thing"] (sp_law_plain K 2) := plain_step T D (plain_step T D (plain_base T D))

theorem ok_law_truths {P : Program} {w : World} {K : PySem.W.Frag} {mg : Str → Option Value} {base : Heap} {cAnswer cKnown cUnknown cWebError cTooFew : Addr} (T : Txt K mg cAnswer cKnown cUnknown cWebError cTooFew) (D : At K mg "_law_truths" s_law_truths ["_law_things"])  : Has P w K mg base CX0 1 "_law_truths" ["_law_things"] (sp_law_truths K) := by
  refine has_of D sc_law_truths (fun vs H Q E h => ?_) (fun f cdv A outer s H vs Q E hr h => ?_)
  · obtain ⟨p, xs, rfl, _⟩ := h
    rfl
  · obtain ⟨p, xs, rfl, hp, hl, hb, hq⟩ := h
    refine ⟨_, (pss_one (ps_ret (pe_callB (cr_allK K rfl) (by rfl) T.n_all (by decide +kernel) (pa_cons (pe_lc (own := [("_law_one", 1)]) rfl sc_law_truths.nd (pi_listK K (pv 0)) (blkOk_by (by kernel_rfl)) (fun _ _ _ _ _ => (nm 1 sc_law_truths.nd)) (fun _ _ _ _ _ => pts_nil) (fun _ _ _ _ _ => (pe_callB (cr_isiK K) (by rfl) T.n_isinstance (by decide +kernel) (pa_cons (pv 1) (pa_cons (bty "bool" T.n_bool (by decide +kernel)) pa_nil))))) pa_nil)))), ?_⟩
    refine s_ret (ev_is (ev_allR (n := xs.length) (g := fun _ => true) (el_map (fun _ => V.bl true) (ew_list (ev_var rfl) (SqL.of hp) (Ex.refl _)) (by omega) (fun _ => rfl) fun i H3 e3 hi => ?_)) (by simp)) fun H3 e3 => hq H3 e3
    rw [getD_eq (List.getElem?_eq_getElem hi)]
    obtain ⟨b, hb⟩ := hb _ (List.getElem_mem hi)
    rw [hb]
    exact ev_isBool (ev_var rfl)
theorem ok_law_web_right {P : Program} {w : World} {K : PySem.W.Frag} {mg : Str → Option Value} {base : Heap} {cAnswer cKnown cUnknown cWebError cTooFew : Addr} (T : Txt K mg cAnswer cKnown cUnknown cWebError cTooFew) (D : At K mg "_law_web_right" s_law_web_right ["_law_web"]) (h_friends : Has P w K mg base CX0 3 "friends" ["web"] (sp_friends K cKnown)) (h_strangers : Has P w K mg base CX0 3 "strangers" ["web"] (sp_strangers K cUnknown)) (h_promised : Has P w K mg base CX0 3 "promised" ["web"] (sp_promised K)) (h_alike : Has P w K mg base CX0 2 "alike" ["web"] (sp_alike K)) (h_ties : Has P w K mg base CX0 2 "ties" ["web"] (sp_ties K)) (h_three : Has P w K mg base CX0 3 "three" ["web"] (sp_three K cKnown cUnknown)) (h_Known_shows : HasM P w K mg base CX0 2 cKnown "shows" ["self", "web"] (sp_Known_shows K cKnown)) (h_Unknown_shows : HasM P w K mg base CX0 2 cUnknown "shows" ["self", "web"] (sp_Unknown_shows K cUnknown)) (h_found : Has P w K mg base (L2.CX P w) 3 "found" ["web", "known", "unknown"] (sp_found K cKnown cUnknown cTooFew)) (C_Known : HasMk P w K mg base CX0 1 "Known" cKnown ["self", "people"] (sp_Known___init__ K cKnown)) (C_Unknown : HasMk P w K mg base CX0 1 "Unknown" cUnknown ["self", "people"] (sp_Unknown___init__ K cUnknown)) (h_law_plain : Has P w K mg base CX0 3 "_law_plain" ["_law_thing"] (sp_law_plain K 2)) (h_law_truths : Has P w K mg base CX0 1 "_law_truths" ["_law_things"] (sp_law_truths K)) : Has P w K mg base CX0 4 "_law_web_right" ["_law_web"] (sp_law_web_right K) := by
  refine has_of D sc_law_web_right (fun vs H Q E h => ?_) (fun f cdv A outer s H vs Q E hr h => ?_)
  · obtain ⟨a, n, k, rfl, _⟩ := h
    rfl
  · obtain ⟨a, n, k, rfl, hw, hq⟩ := h
    have hn := hw.le
    have shK : ∀ {R : Bool → List V → Prop} {te : TE} {σ : St} {H1 : Hp}, Ex H H1 → EvM2 te σ H1 cKnown cUnknown R → (∀ c xs, R c xs → ∃ ns : List Int, xs = ns.map V.int) → σ[0]? = some (some (.ref a)) →
        EvX (tMeth2 cKnown cUnknown "shows" (sp_Known_shows K cKnown) (sp_Unknown_shows K cUnknown) te (tCons (tVar 0) tNil)) σ H1 IsB := fun e1 h hR h0 =>
      evx_meth2 h (by decide) (fun H2 e2 => ea_cons (ev_var h0) ea_nil) (fun x H2 xs hr e2 hA => by
        obtain ⟨ns, rfl⟩ := hR _ _ hr
        exact ⟨_, spv_Known_shows hA (hw.ex (e1.trans e2))⟩) fun x H2 xs hr e2 hA => by
        obtain ⟨ns, rfl⟩ := hR _ _ hr
        exact ⟨_, spv_Unknown_shows hA (hw.ex (e1.trans e2))⟩
    have eStr : ∀ {σ : St} {H1 : Hp}, Ex H H1 → σ[0]? = some (some (.ref a)) → EvMP (tCall (sp_strangers K cUnknown) [] E0 (tCons (tVar 0) tNil)) σ H1 cUnknown (fun xs => ∃ ns : List Int, xs = ns.map V.int ∧ ns.length ≤ 1000) := fun e1 h0 =>
      emp_call (ea_cons (ev_var h0) ea_nil) fun H2 e2 Q qq E => ⟨a, n, k, rfl, hw.ex (e1.trans e2), fun ps x H3 hG e3 hA => qq x H3 _ ⟨_, natsV_ints ps, goodS_le hG hn⟩ e3 hA⟩
    have eFri : ∀ {σ : St} {H1 : Hp}, Ex H H1 → σ[0]? = some (some (.ref a)) → EvMP (tCall (sp_friends K cKnown) [] E0 (tCons (tVar 0) tNil)) σ H1 cKnown (fun xs => ∃ ns : List Int, xs = ns.map V.int ∧ ns.length ≤ 1000) := fun e1 h0 =>
      emp_call (ea_cons (ev_var h0) ea_nil) fun H2 e2 Q qq E => ⟨a, n, k, rfl, hw.ex (e1.trans e2), fun ps x H3 hG e3 hA => qq x H3 _ ⟨_, natsV_ints ps, goodS_le hG hn⟩ e3 hA⟩
    have hram : 5 < n → ram 2 2 ≤ n := fun h => (show ram 2 2 = 6 by decide) ▸ h
    have eFnd : 5 < n → ∀ {σ : St} {H1 : Hp}, Ex H H1 → σ[0]? = some (some (.ref a)) → EvM2 (tCall (sp_found K cKnown cUnknown cTooFew) [] E0 (tCons (tVar 0) (tCons (tC (.int 3)) (tCons (tC (.int 3)) tNil)))) σ H1 cKnown cUnknown (fun _ xs => ∃ ns : List Int, xs = ns.map V.int ∧ ns.length ≤ 1000) := fun h5 {σ H1} e1 h0 =>
      em2_call (vs := [.ref a, .int ((2 + 1 : Nat) : Nat), .int ((2 + 1 : Nat) : Nat)]) (ea_cons (ev_var h0) (ea_cons ev_c (ea_cons ev_c ea_nil))) fun H2 e2 Q qq => ⟨a, n, k, 2, 2, rfl, hw.ex (e1.trans e2), by decide, by decide, fun hlt => absurd hlt (Nat.not_lt.mpr (hram h5)), fun _ c ps x H3 hG e3 hA => qq c x H3 _ ⟨_, natsV_ints ps, by
        have := goodF_len hG
        rw [List.length_map]
        cases c <;> simp at this <;> omega⟩ e3 hA⟩
    refine ⟨_, (pss_cons (ps_par (i := 1) (j := 2) rfl sc_law_web_right.nd rfl rfl (by decide) rfl rfl (pa_cons (pe_lst (pa_cons (hcall h_ties (hr.mono (by decide)) (pa_cons (pv 0) pa_nil)) (pa_cons (hcall h_alike (hr.mono (by decide)) (pa_cons (pv 0) pa_nil)) (pa_cons (hcall h_promised (hr.mono (by decide)) (pa_cons (pv 0) pa_nil)) (pa_cons (fldK K (hcall h_strangers (hr.mono (by decide)) (pa_cons (pv 0) pa_nil))) (pa_cons (fldK K (hcall h_friends (hr.mono (by decide)) (pa_cons (pv 0) pa_nil))) pa_nil)))))) (pa_cons (pe_lst pa_nil) pa_nil)) (by rfl))
      (pss_cons (st_ 3 sc_law_web_right.nd (hcall h_three (hr.mono (by decide)) (pa_cons (pv 0) pa_nil)))
      (pss_cons (ps_if (pt_cmpR op_notNn (pv 3) pe_non (nomark _)) (pss_cons (ps_expr (bmK K PySem.F.plainAttrs_list PySem.F.slot_list_append PySem.F.type_list_append mt_append (pv 1) (pa_cons (fldK K (pv 3)) pa_nil)))
      (pss_one (ps_expr (bmK K PySem.F.plainAttrs_list PySem.F.slot_list_append PySem.F.type_list_append mt_append (pv 2) (pa_cons (hmeth2 h_Known_shows h_Unknown_shows (hr.mono (by decide)) (hr.mono (by decide)) (pv 3) (pa_cons (pv 0) pa_nil)) pa_nil))))) pss_nil)
      (pss_cons (ps_if (pt_cmpR op_gt (pe_callB (cr_lenK K) (by rfl) T.n_len (by decide +kernel) (pa_cons (pv 0) pa_nil)) pe_int (nomark _)) (pss_cons (ps_expr (bmK K PySem.F.plainAttrs_list PySem.F.slot_list_append PySem.F.type_list_append mt_append (pv 1) (pa_cons (fldK K (hcallL h_found (hr.mono (by decide)) (pa_cons (pv 0) (pa_cons pe_int (pa_cons pe_int pa_nil))))) pa_nil)))
      (pss_one (ps_expr (bmK K PySem.F.plainAttrs_list PySem.F.slot_list_append PySem.F.type_list_append mt_append (pv 2) (pa_cons (hmeth2 h_Known_shows h_Unknown_shows (hr.mono (by decide)) (hr.mono (by decide)) (hcallL h_found (hr.mono (by decide)) (pa_cons (pv 0) (pa_cons pe_int (pa_cons pe_int pa_nil)))) (pa_cons (pv 0) pa_nil)) pa_nil))))) pss_nil)
      (pss_cons (st_ 2 sc_law_web_right.nd (pe_op op_cat (pv 2) (pe_lst (pa_cons (hmeth2 h_Known_shows h_Unknown_shows (hr.mono (by decide)) (hr.mono (by decide)) (hcall h_strangers (hr.mono (by decide)) (pa_cons (pv 0) pa_nil)) (pa_cons (pv 0) pa_nil)) (pa_cons (hmeth2 h_Known_shows h_Unknown_shows (hr.mono (by decide)) (hr.mono (by decide)) (hcall h_friends (hr.mono (by decide)) (pa_cons (pv 0) pa_nil)) (pa_cons (pv 0) pa_nil)) (pa_cons (hmeth2 h_Known_shows h_Unknown_shows (hr.mono (by decide)) (hr.mono (by decide)) (hmake C_Known (hr.mono (by decide)) (pa_cons (pe_lst pa_nil) pa_nil)) (pa_cons (pv 0) pa_nil)) pa_nil))))))
      (pss_cons (st_ 2 sc_law_web_right.nd (pe_op op_cat (pv 2) (pe_lst (pa_cons (hmeth2 h_Known_shows h_Unknown_shows (hr.mono (by decide)) (hr.mono (by decide)) (hmake C_Unknown (hr.mono (by decide)) (pa_cons (pe_lst (pa_cons pe_int (pa_cons pe_int pa_nil))) pa_nil)) (pa_cons (pv 0) pa_nil)) pa_nil))))
      (pss_one (ps_ret (pe_and (hcall h_law_plain (hr.mono (by decide)) (pa_cons (pv 1) pa_nil)) (pe_and (hcall h_law_truths (hr.mono (by decide)) (pa_cons (pv 2) pa_nil)) (pe_one (pe_callB (cr_isiK K) (by rfl) T.n_isinstance (by decide +kernel) (pa_cons (hcall h_promised (hr.mono (by decide)) (pa_cons (pv 0) pa_nil)) (pa_cons (bty "tuple" T.n_tuple (by decide +kernel)) pa_nil)))))))))))))), ?_⟩
    refine q_parLL (P := PI) (m := 5) (elx_lst pi_kept (eax_cons pi_kept (evx_el (el_hc (ea_cons (ev_var rfl) ea_nil) (spl_ties hw)) fun p H1 e1 hp => ?_) (eax_cons pi_kept (evx_of (ev_hc (ea_cons (ev_var rfl) ea_nil) (spv_alike hw)) fun H1 e1 => .inl ⟨_, rfl⟩) (eax_cons pi_kept (evx_eu (eu_hc (ea_cons (ev_var rfl) ea_nil) (spu_promised hw)) fun p H1 e1 hp => PI.tup (ns := [_, _]) hp (by simp)) (eax_cons pi_kept (evx_fldP (eStr (Ex.refl _) rfl) T.o_Unknown fun xs l H1 H2 hR e1 e2 l0 hl => ?_) (eax_cons pi_kept (evx_fldP (eFri (Ex.refl _) rfl) T.o_Known fun xs l H1 H2 hR e1 e2 l0 hl => ?_) eax_nil))))) (by decide)) (fun H1 e1 => el_lst ea_nil (by simp)) fun p1 p2 H1 H2 xs hp1 hp2 e1 e2 h1 hl hv h2 => ?_
    · have e : degV n k = ((List.range n).map fun i => deg n k i).map V.int := by unfold degV; rw [List.map_map]; rfl
      rw [e] at hp
      exact PI.lst hp (by simp; omega)
    · obtain ⟨ns, rfl, h⟩ := hR; exact PI.lst hl h
    · obtain ⟨ns, rfl, h⟩ := hR; exact PI.lst hl h
    have hx12 : p1 ≠ p2 := fun z => by rw [← z, h1] at hp2; cases hp2
    have e12 := e1.trans e2
    have start : RS H p1 p2 5 xs [] H2 := ⟨e12, hx12, hp1, fresh_back e1 hp2, e2 _ _ h1, h2, hl, by simp, fun v hv' => ⟨pi_kept _ _ _ e2 (hv v hv'), fun q hqv => ⟨?_, ?_⟩⟩, fun b hb => by cases hb⟩
    rotate_left
    · subst hqv
      have hPI := hv _ hv'
      intro z
      subst z
      rcases hPI with ⟨i, h⟩ | ⟨q', ns, h3, _, h4 | h4⟩
      · cases h
      · cases h3
        rw [h1] at h4
        cases h4
        obtain ⟨i, _, hi⟩ := List.mem_map.mp hv'
        cases hi
      · cases h3
        rw [h1] at h4
        cases h4
    · subst hqv
      intro z
      subst z
      rcases hv _ hv' with ⟨i, h⟩ | ⟨q', ns, h3, _, h4 | h4⟩
      · cases h
      · cases h3; rw [hp2] at h4; cases h4
      · cases h3; rw [hp2] at h4; cases h4
    refine q_fork2 (fun σ' H' => ∃ xs bs s3, σ' = [some (.ref a), some (.ref p1), some (.ref p2), s3] ∧ RS H p1 p2 7 xs bs H') (fun σ' H' hI => ?_) fun D' kD => ?_
    rotate_left
    · refine q_asgC (ea_cons (ev_var rfl) ea_nil) fun H3 e3 => ⟨a, n, k, rfl, hw.ex (e12.trans e3), fun _ H4 e4 => ?_, fun b f m l x H4 hf hm hl' hall e4 hA => ?_⟩
      · exact s_when (b := false) (et_is (et_test (ev_notN (x := .non) (ev_var rfl) ev_c)) (by decide)) (bl_false rfl) fun _ H5 e5 => kD _ _ ⟨xs, [], _, rfl, start.mono ((e3.trans e4).trans e5) (by decide)⟩
      · refine s_when (b := true) (et_is (et_test (ev_notN (x := .ref x) (ev_var rfl) ev_c)) (by rfl)) (fun _ H5 e5 => ?_) (bl_true rfl)
        obtain ⟨dx, q, xn, qn, xq, hx, hqq⟩ := hA
        have r3 := start.mono e3 (Nat.le_refl 5)
        have r5 := r3.mono (e4.trans e5) (Nat.le_refl 5)
        have x1 : x ≠ p1 := fun z => by rw [z, r3.h1] at xn; cases xn
        have x2 : x ≠ p2 := fun z => by rw [z, r3.h2] at xn; cases xn
        have q1 : q ≠ p1 := fun z => by rw [z, r3.h1] at qn; cases qn
        have q2 : q ≠ p2 := fun z => by rw [z, r3.h2] at qn; cases qn
        have hC : OwnC K (if b then cKnown else cUnknown) := by cases b; exact T.o_Unknown; exact T.o_Known
        refine q_app r5.h1 (ev_var rfl) (ev_fld (ev_var rfl) hC hx e5) (by have := r5.l1; omega) fun H6 e6 => ?_
        have r6 := (r5.mono e6 (Nat.le_refl 5)).add1 (v := .ref q) ⟨PI.lst (ns := [(f : Int), (m : Int), (l : Int)]) ((e5.trans e6) _ _ hqq) (by simp), fun q' hq' => by cases hq'; exact ⟨q1, q2⟩⟩
        have hx6 : (upd H6 p1 (.lst (xs ++ [V.ref q]))) x = _ := (upd_ne x1).trans ((e5.trans e6) _ _ hx)
        have hq6 : (upd H6 p1 (.lst (xs ++ [V.ref q]))) q = _ := (upd_ne q1).trans ((e5.trans e6) _ _ hqq)
        generalize upd H6 p1 (.lst (xs ++ [V.ref q])) = H7 at r6 hx6 hq6
        have hA7 : AnsAt H7 x (if b then cKnown else cUnknown) (([(f : Int), (m : Int), (l : Int)]).map V.int) := ⟨dx, q, hx6, hq6⟩
        refine s_app r6.h2 (ev_var rfl) (v := .bl (showsB n k b [(f : Int), (m : Int), (l : Int)])) (ev_meth2 (ev_var rfl) hA7 (Ex.refl _) (by decide) (ea_cons (ev_var rfl) ea_nil) (fun hc => ?_) fun hc => ?_) (by have := r6.l2; omega) fun H8 e8 => kD _ _ ⟨_, _, _, rfl, (r6.mono e8 (Nat.le_refl 6)).add2⟩
        · subst hc; exact spv_Known_shows hA7 (hw.ex r6.ex)
        · subst hc; exact spv_Unknown_shows hA7 (hw.ex r6.ex)
    obtain ⟨xs, bs, s3, rfl, r⟩ := hI
    refine q_fork (fun σ' H' => ∃ xs bs s3, σ' = [some (.ref a), some (.ref p1), some (.ref p2), s3] ∧ RS H p1 p2 9 xs bs H') (fun σ' H' hI => ?_) fun D' kD => ?_
    rotate_left
    · refine s_when (b := decide ((5 : Int) < n)) (et_test (ev_op (ev_lenW hw.seq r.ex (ev_var rfl)) ev_c rv_I0)) (fun hb H3 e3 => ?_) fun hb H3 e3 => kD _ _ ⟨xs, bs, _, rfl, r.mono e3 (by decide)⟩
      have h5 : 5 < n := by have := of_decide_eq_true hb; omega
      have r3 := r.mono e3 (Nat.le_refl 7)
      refine q_appX (P := PRow p1 p2) r3.h1 (ev_var rfl) (evx_fldM2 (eFnd h5 r3.ex rfl) T.o_Known T.o_Unknown fun c ys l H4 H5 hR e4 e5 l0 hl => ?_) (by have := r3.l1; omega) fun v H4 e4 hv => ?_
      · obtain ⟨ns, rfl, hlen⟩ := hR
        have r4 := r3.mono e4 (Nat.le_refl 7)
        exact ⟨PI.lst hl hlen, fun q' hq' => by cases hq'; exact ⟨fun z => (by rw [z, r4.h1] at l0; cases l0), fun z => (by rw [z, r4.h2] at l0; cases l0)⟩⟩
      · have r4 := (r3.mono e4 (Nat.le_refl 7)).add1 hv
        generalize upd H4 p1 (.lst (xs ++ [v])) = H5 at r4
        exact s_appX r4.h2 (ev_var rfl) (shK r4.ex (eFnd h5 r4.ex rfl) (fun c xs ⟨ns, h, _⟩ => ⟨ns, h⟩) rfl) (by have := r4.l2; omega) fun v H6 e6 ⟨b, hb⟩ => by
          subst hb
          exact kD _ _ ⟨_, _, _, rfl, (r4.mono e6 (Nat.le_refl 8)).add2⟩
    obtain ⟨xs, bs, s3, rfl, r⟩ := hI
    have l2 := r.l2
    have l1 := r.l1
    refine q_asgLX (elx_cat (P := IsB) isB_kept (ev_var rfl) r.h2 (Ex.refl _) (fun v hv => r.bls v hv) (elx_lst isB_kept (eax_cons isB_kept (shK r.ex (EvMP.two2 (eStr r.ex rfl)) (fun c xs ⟨_, ns, h, _⟩ => ⟨ns, h⟩) rfl) (eax_cons isB_kept (shK r.ex (EvMP.two1 (eFri r.ex rfl)) (fun c xs ⟨_, ns, h, _⟩ => ⟨ns, h⟩) rfl) (eax_cons isB_kept (shK r.ex (EvMP.two1 (em_makeN (ns := []) (EvQ.of_el (el_lst ea_nil (by simp))))) (fun c xs ⟨_, h⟩ => ⟨[], h⟩) rfl) eax_nil))) (by decide)) (by omega)) fun q3 H3 bs3 q30 e3 hq3 hl3 hb3 => ?_
    have rx3 := r.ex.trans e3
    refine q_asgLX (elx_cat (P := IsB) isB_kept (ev_var rfl) hq3 (Ex.refl _) hb3 (elx_lst isB_kept (eax_cons isB_kept (shK rx3 (EvMP.two2 (em_makeN (ns := [.int 0, .int 1]) (EvQ.of_el (el_lst (ea_cons ev_c (ea_cons ev_c ea_nil)) (by simp))))) (fun c xs ⟨_, h⟩ => ⟨[0, 1], h⟩) rfl) eax_nil) (by decide)) (by omega)) fun q4 H4 bs4 q40 e4 hq4 hl4 hb4 => ?_
    have e34 := e3.trans e4
    have rx4 := rx3.trans e4
    refine s_ret (ev_is (ev_andV (ev_hc (ea_cons (ev_var rfl) ea_nil) (spv_law_plain (.lst 1 (e34 _ _ r.h1) (by omega) fun v hv => (pi_kept _ _ _ e34 (r.rows v hv).1).plain))) fun _ => ev_andV (ev_hc (ea_cons (ev_var rfl) ea_nil) (spv_law_truths hq4 (by omega) hb4)) fun _ => ev_isU (eu_hc (ea_cons (ev_var rfl) ea_nil) (spu_promised (hw.ex rx4)))) rfl) fun H5 e5 => hq H5 (rx4.trans e5)
theorem ok_law_are_too_few {P : Program} {w : World} {K : PySem.W.Frag} {mg : Str → Option Value} {base : Heap} {cAnswer cKnown cUnknown cWebError cTooFew : Addr} (T : Txt K mg cAnswer cKnown cUnknown cWebError cTooFew) (D : At K mg "_law_are_too_few" s_law_are_too_few ["_law_web", "_law_known", "_law_unknown"]) (h_found : Has P w K mg base (L2.CX P w) 3 "found" ["web", "known", "unknown"] (sp_found K cKnown cUnknown cTooFew)) : Has P w K mg base CX0 4 "_law_are_too_few" ["_law_web", "_law_known", "_law_unknown"] (sp_law_are_too_few K) := by
  refine has_of D sc_law_are_too_few (fun vs H Q E h => ?_) (fun f cdv A outer s H vs Q E hr h => ?_)
  · obtain ⟨p, n, k, a, b, rfl, _⟩ := h
    rfl
  · obtain ⟨p, n, k, a, b, rfl, hw, ha, hb, hq⟩ := h
    refine ⟨_, (pss_one (ps_try_as (i := 3) rfl rfl sc_law_are_too_few.nd rfl rfl ⟨rfl, by decide, .inl T.m_WebError⟩ takes0 (fun W pn xe tk _ => (pss_cons (ps_expr (hcallS tk h_found (hr.mono (by decide)) (pa_cons (pv 0) (pa_cons (pv 1) (pa_cons (pv 2) pa_nil)))))
      (pss_one (ps_ret pe_bl)))) (fun a oe cls d pn hz hf => (pss_know (C := cTooFew) fun h1 h2 => (pss_one (ps_ret (pe_callB (call_isE T.r_TooFew.e (zc_of h1 h2 hz) hf) (by rfl) T.n_isinstance (by decide +kernel) (pa_cons (pv 3) (pa_cons (gcls T.m_TooFew) pa_nil))))))))), ?_⟩
    show tSeq _ _ _ _ _
    refine q_dropS (ea_cons (ev_var rfl) (ea_cons (ev_var rfl) (ea_cons (ev_var rfl) ea_nil))) fun H1 e1 => ⟨p, n, k, a, b, rfl, hw.ex e1, ha, hb, fun hlt H2 e2 => ?_, fun hge c ps x H2 hG e2 hA => ?_⟩
    · refine ⟨true, T.x_TooFew_WebError, fun _ a0 ha0 => ⟨rfl, rfl, ?_⟩, fun q => nomatch q⟩
      rw [decide_eq_true hlt] at hq
      exact s_ret (ev_isE (ev_var rfl) ev_c T.k_TooFew_TooFew) fun H3 e3 => hq H3 ((e1.trans e2).trans e3)
    · rw [decide_eq_false (Nat.not_lt.mpr hge)] at hq
      exact s_ret ev_c fun H3 e3 => hq H3 ((e1.trans e2).trans e3)
theorem ok_law_groups_promises {P : Program} {w : World} {K : PySem.W.Frag} {mg : Str → Option Value} {base : Heap} {cAnswer cKnown cUnknown cWebError cTooFew : Addr} (T : Txt K mg cAnswer cKnown cUnknown cWebError cTooFew) (D : At K mg "_law_groups_promises" s_law_groups_promises []) (h_sure : Has P w K mg base CX0 3 "sure" ["known", "unknown"] (sp_sure K)) (h_found : Has P w K mg base (L2.CX P w) 3 "found" ["web", "known", "unknown"] (sp_found K cKnown cUnknown cTooFew)) (h_law_are_too_few : Has P w K mg base CX0 4 "_law_are_too_few" ["_law_web", "_law_known", "_law_unknown"] (sp_law_are_too_few K)) (h_promised : Has P w K mg base CX0 3 "promised" ["web"] (sp_promised K)) (h_friends : Has P w K mg base CX0 3 "friends" ["web"] (sp_friends K cKnown)) (h_strangers : Has P w K mg base CX0 3 "strangers" ["web"] (sp_strangers K cUnknown)) (h_Known_shows : HasM P w K mg base CX0 2 cKnown "shows" ["self", "web"] (sp_Known_shows K cKnown)) (h_Unknown_shows : HasM P w K mg base CX0 2 cUnknown "shows" ["self", "web"] (sp_Unknown_shows K cUnknown)) : Has P w K mg base CX0 5 "_law_groups_promises" [] (sp_law_groups_promises K) := by
  refine has_of D sc_law_groups_promises (fun vs H Q E h => ?_) (fun f cdv A outer s H vs Q E hr h => ?_)
  · obtain ⟨rfl, _⟩ := h
    rfl
  · obtain ⟨rfl, hq⟩ := h
    refine ⟨_, (pss_cons (st_ 0 sc_law_groups_promises.nd (hcall h_sure (hr.mono (by decide)) (pa_cons pe_int (pa_cons pe_int pa_nil))))
      (pss_cons (ps_if (pt_cmpR (op_neDK K hr.units) (pe_lst (pa_cons (hcall h_sure (hr.mono (by decide)) (pa_cons pe_int (pa_cons pe_int pa_nil))) (pa_cons (hcall h_sure (hr.mono (by decide)) (pa_cons pe_int (pa_cons pe_int pa_nil))) (pa_cons (hcall h_sure (hr.mono (by decide)) (pa_cons pe_int (pa_cons pe_int pa_nil))) (pa_cons (hcall h_sure (hr.mono (by decide)) (pa_cons pe_int (pa_cons pe_int pa_nil))) (pa_cons (hcall h_sure (hr.mono (by decide)) (pa_cons pe_int (pa_cons pe_int pa_nil))) (pa_cons (hcall h_sure (hr.mono (by decide)) (pa_cons pe_int (pa_cons pe_int pa_nil))) pa_nil))))))) (pe_lst (pa_cons pe_int (pa_cons pe_int (pa_cons pe_int (pa_cons pe_int (pa_cons pe_int (pa_cons pe_int pa_nil))))))) (nomark _)) (pss_one (ps_ret pe_bl)) pss_nil)
      (pss_cons (ps_if (pt_cmpR op_ne (pv 0) (pe_op op_add (hcall h_sure (hr.mono (by decide)) (pa_cons pe_int (pa_cons pe_int pa_nil))) (hcall h_sure (hr.mono (by decide)) (pa_cons pe_int (pa_cons pe_int pa_nil)))) (nomark _)) (pss_one (ps_ret pe_bl)) pss_nil)
      (pss_cons (ps_par (i := 1) (j := 2) rfl sc_law_groups_promises.nd rfl rfl (by decide) rfl rfl (pa_cons (pe_lc (own := [("_law_at", 10)]) rfl sc_law_groups_promises.nd (pi_range1 rfl T.n_range (pa_cons pe_int pa_nil)) (blkOk_by (by kernel_rfl)) (fun _ _ _ _ _ => (nm 10 sc_law_groups_promises.nd)) (fun _ _ _ _ _ => pts_nil) (fun _ _ _ _ _ => (pe_op op_addS (pe_op op_addS (pe_op op_repS pe_str (pv 10)) pe_str) (pe_op op_repS pe_str (pe_op op_sub pe_int (pv 10)))))) (pa_cons (pe_op op_rep (pe_lst (pa_cons (pe_op op_repS pe_str pe_int) pa_nil)) pe_int) pa_nil)) (by rfl))
      (pss_cons (ps_if (PW.pt (pw_or (pt_not (pt_val (pe_callB (cr_isiK K) (by rfl) T.n_isinstance (by decide +kernel) (pa_cons (hcallL h_found (hr.mono (by decide)) (pa_cons (pv 1) (pa_cons pe_int (pa_cons pe_int pa_nil)))) (pa_cons (gcls T.m_Known) pa_nil))))) (pw_or1 (pt_not (pt_val (pe_callB (cr_isiK K) (by rfl) T.n_isinstance (by decide +kernel) (pa_cons (hcallL h_found (hr.mono (by decide)) (pa_cons (pv 2) (pa_cons pe_int (pa_cons pe_int pa_nil)))) (pa_cons (gcls T.m_Unknown) pa_nil)))))))) (pss_one (ps_ret pe_bl)) pss_nil)
      (pss_cons (ps_if (pt_cmpR op_ne (pe_callB (cr_lenK K) (by rfl) T.n_len (by decide +kernel) (pa_cons (fldK K (hcallL h_found (hr.mono (by decide)) (pa_cons (pv 1) (pa_cons pe_int (pa_cons pe_int pa_nil))))) pa_nil)) pe_int (nomark _)) (pss_one (ps_ret pe_bl)) pss_nil)
      (pss_cons (st_ 3 sc_law_groups_promises.nd (pe_lst (pa_cons pe_str (pa_cons pe_str (pa_cons pe_str (pa_cons pe_str (pa_cons pe_str pa_nil)))))))
      (pss_cons (ps_if (PW.pt (pw_or (pt_not (pt_val (hcall h_law_are_too_few (hr.mono (by decide)) (pa_cons (pv 3) (pa_cons pe_int (pa_cons pe_int pa_nil)))))) (pw_or (pt_val (hcall h_law_are_too_few (hr.mono (by decide)) (pa_cons (pv 3) (pa_cons pe_int (pa_cons pe_int pa_nil))))) (pw_or1 (pt_val (hcall h_law_are_too_few (hr.mono (by decide)) (pa_cons (pe_lst (pa_cons pe_str pa_nil)) (pa_cons pe_int (pa_cons pe_int pa_nil))))))))) (pss_one (ps_ret pe_bl)) pss_nil)
      (pss_cons (ps_if (pt_not (pt_val (hcall h_law_are_too_few (hr.mono (by decide)) (pa_cons (pe_lst pa_nil) (pa_cons pe_int (pa_cons pe_int pa_nil)))))) (pss_one (ps_ret pe_bl)) pss_nil)
      (pss_cons (st_ 4 sc_law_groups_promises.nd (pe_lst (pa_cons pe_str (pa_cons pe_str (pa_cons pe_str pa_nil)))))
      (pss_cons (ps_if (PW.pt (pw_or (pt_cmpR (op_neDK K hr.units) (hcall h_promised (hr.mono (by decide)) (pa_cons (pe_lst pa_nil) pa_nil)) (pe_tup (pa_cons pe_int (pa_cons pe_int pa_nil))) (nomark _)) (pw_or (pt_cmpR (op_neDK K hr.units) (hcall h_promised (hr.mono (by decide)) (pa_cons (pe_lst (pa_cons pe_str pa_nil)) pa_nil)) (pe_tup (pa_cons pe_int (pa_cons pe_int pa_nil))) (nomark _)) (pw_or1 (pt_cmpR (op_neDK K hr.units) (hcall h_promised (hr.mono (by decide)) (pa_cons (pe_lst (pa_cons pe_str (pa_cons pe_str pa_nil))) pa_nil)) (pe_tup (pa_cons pe_int (pa_cons pe_int pa_nil))) (nomark _)))))) (pss_one (ps_ret pe_bl)) pss_nil)
      (pss_cons (ps_if (PW.pt (pw_or (pt_cmpR (op_neDK K hr.units) (hcall h_promised (hr.mono (by decide)) (pa_cons (pv 4) pa_nil)) (pe_tup (pa_cons pe_int (pa_cons pe_int pa_nil))) (nomark _)) (pw_or1 (pt_cmpR (op_neDK K hr.units) (hcall h_promised (hr.mono (by decide)) (pa_cons (pv 3) pa_nil)) (pe_tup (pa_cons pe_int (pa_cons pe_int pa_nil))) (nomark _))))) (pss_one (ps_ret pe_bl)) pss_nil)
      (pss_cons (ps_for PassesOwn.never rfl (pi_listK K (pe_lst (pa_cons (pe_tup (pa_cons (pe_lst pa_nil) (pa_cons pe_int (pa_cons pe_int pa_nil)))) (pa_cons (pe_tup (pa_cons (pe_lst (pa_cons pe_str pa_nil)) (pa_cons pe_int (pa_cons pe_int pa_nil)))) (pa_cons (pe_tup (pa_cons (pv 4) (pa_cons pe_int (pa_cons pe_int pa_nil)))) (pa_cons (pe_tup (pa_cons (pv 3) (pa_cons pe_int (pa_cons pe_int pa_nil)))) (pa_cons (pe_tup (pa_cons (pv 1) (pa_cons pe_int (pa_cons pe_int pa_nil)))) (pa_cons (pe_tup (pa_cons (pv 2) (pa_cons pe_int (pa_cons pe_int pa_nil)))) pa_nil)))))))) (pg_tupK (n := 3) K rfl (pgs_cons (nm 5 sc_law_groups_promises.nd) (pgs_cons (nm 6 sc_law_groups_promises.nd) (pgs_cons (nm 7 sc_law_groups_promises.nd) pgs_nil)))) (pss_cons (ps_par (i := 8) (j := 9) rfl sc_law_groups_promises.nd rfl rfl (by decide) rfl rfl (pa_cons (hcall h_strangers (hr.mono (by decide)) (pa_cons (pv 5) pa_nil)) (pa_cons (hcall h_friends (hr.mono (by decide)) (pa_cons (pv 5) pa_nil)) pa_nil)) (by rfl))
      (pss_one (ps_if (PW.pt (pw_or (pt_not (pt_val (hmeth2 h_Known_shows h_Unknown_shows (hr.mono (by decide)) (hr.mono (by decide)) (pv 8) (pa_cons (pv 5) pa_nil)))) (pw_or (pt_not (pt_val (hmeth2 h_Known_shows h_Unknown_shows (hr.mono (by decide)) (hr.mono (by decide)) (pv 9) (pa_cons (pv 5) pa_nil)))) (pw_or (pt_cmpR op_lt (pe_callB (cr_lenK K) (by rfl) T.n_len (by decide +kernel) (pa_cons (fldK K (pv 8)) pa_nil)) (pv 6) (nomark _)) (pw_or1 (pt_cmpR op_lt (pe_callB (cr_lenK K) (by rfl) T.n_len (by decide +kernel) (pa_cons (fldK K (pv 9)) pa_nil)) (pv 7) (nomark _))))))) (pss_one (ps_ret pe_bl)) pss_nil))))
      (pss_one (ps_ret pe_bl))))))))))))))), ?_⟩
    have su : ∀ {σ : St} {H1 : Hp} {E : XK} {x y : Int} (a b : Nat), a ≤ 199 → b ≤ 199 → x = ((a + 1 : Nat) : Int) → y = ((b + 1 : Nat) : Int) → Ev (tCall (sp_sure K) [] E (tCons (tC (.int x)) (tCons (tC (.int y)) tNil))) σ H1 (.int (ram a b : Nat)) := fun a b ha hb hx hy => by
      subst hx hy
      exact ev_hc (ea_cons ev_c (ea_cons ev_c ea_nil)) (spv_sure ha hb)
    refine q_asg (v := .int (ram 199 199 : Nat)) (su 199 199 (by decide) (by decide) rfl rfl) fun H1 e1 => ?_
    refine q_when (b := false) (et_is (et_test (ev_neQI (ns := [((ram 0 4 : Nat) : Int), (ram 0 0 : Nat), (ram 1 2 : Nat), (ram 2 2 : Nat), (ram 2 3 : Nat), (ram 3 2 : Nat)]) (ms := [1, 1, 3, 6, 10, 10]) (EvQ.of_el (el_lst (ea_cons (su 0 4 (by decide) (by decide) rfl rfl) (ea_cons (su 0 0 (by decide) (by decide) rfl rfl) (ea_cons (su 1 2 (by decide) (by decide) rfl rfl) (ea_cons (su 2 2 (by decide) (by decide) rfl rfl) (ea_cons (su 2 3 (by decide) (by decide) rfl rfl) (ea_cons (su 3 2 (by decide) (by decide) rfl rfl) ea_nil)))))) (by simp))) (EvQ.of_el (el_lst (ea_cons ev_c (ea_cons ev_c (ea_cons ev_c (ea_cons ev_c (ea_cons ev_c (ea_cons ev_c ea_nil)))))) (by simp))))) (by rw [ram_eq1]; decide)) (bl_false rfl) fun _ H2 e2 => ?_
    refine q_when (b := false) (et_is (et_test (ev_neI (j := (ram 198 199 : Nat) + (ram 199 198 : Nat)) (ev_var rfl) (ev_op (su 198 199 (by decide) (by decide) rfl rfl) (su 199 198 (by decide) (by decide) rfl rfl) rv_I0))) (by rw [decide_eq_true ram_top]; rfl)) (bl_false rfl) fun _ H3 e3 => ?_
    refine q_par2L (xs := webV 6 fullK) (ys := webV 6 noneK) (el_map (fun i => V.str (rowS 6 (fullK i))) (ew_rng1 (n := 6) (ea_cons ev_c ea_nil) (by decide)) (by decide) (fun _ => rfl) fun i H4 e4 hi => ?_) (fun H4 e4 => el_repG (n := 6) (el_lst (ea_cons (ev_repS (n := 6) ev_c ev_c (by decide)) ea_nil) (by simp)) (fun H5 e5 => ev_c) (by decide) (by decide) (by simp) ((flat_one _ 6).trans (rep_web 6))) fun p1 p2 H4 e4 hp1 hp2 => ?_
    · exact ev_is (ev_addS (ev_addS (ev_repX ev_c (ev_var rfl) (by omega)) ev_c (full_len1 i hi) rfl) (ev_repX (n := 5 - i) ev_c (ev_is (ev_op ev_c (ev_var rfl) rv_I0) (by congr 1; omega)) (by omega)) (full_len2 i hi) rfl) (full_row i hi _ _ rfl rfl)
    have w1 : WebAt K H4 p1 6 fullK := WebAt.of hp1 (full_w 6) (by decide)
    have w2 : WebAt K H4 p2 6 noneK := WebAt.of hp2 (none_w 6) (by decide)
    have fnd : ∀ {σ : St} {H1 : Hp} {j : Nat} {p : Addr} {k : Rel}, σ[j]? = some (some (.ref p)) → WebAt K H1 p 6 k → EvM2 (tCall (sp_found K cKnown cUnknown cTooFew) [] E0 (tCons (tVar j) (tCons (tC (.int 3)) (tCons (tC (.int 3)) tNil)))) σ H1 cKnown cUnknown (fun c xs => ∃ ps, GoodF 6 k c 3 ps ∧ xs = natsV ps) := fun {σ H1 j p k} h0 hw =>
      em2_call (vs := [.ref p, .int ((2 + 1 : Nat) : Nat), .int ((2 + 1 : Nat) : Nat)]) (ea_cons (ev_var h0) (ea_cons ev_c (ea_cons ev_c ea_nil))) fun H2 e2 Q qq => ⟨p, 6, k, 2, 2, rfl, hw.ex e2, by decide, by decide, fun hlt => absurd hlt (by decide +kernel), fun _ c ps x H3 hG e3 hA => qq c x H3 _ ⟨ps, by cases c <;> exact hG, rfl⟩ e3 hA⟩
    refine q_when (b := false) (et_is (et_or (et_not (et_B (ev_isM2 (c0 := true) (fnd rfl w1) (fun c xs ⟨ps, h, _⟩ => full_kind h) ev_c T.o_Known T.kit.kK))) fun _ => et_not (et_B (ev_isM2 (c0 := false) (fnd rfl w2) (fun c xs ⟨ps, h, _⟩ => none_kind h) ev_c T.o_Unknown T.kit.uU))) rfl) (bl_false rfl) fun _ H5 e5 => ?_
    refine q_when (b := false) (et_is (et_test (ev_neI (ev_lenFld (m := 3) (fnd rfl (w1.ex e5)) T.o_Known T.o_Unknown fun c xs ⟨ps, h, e⟩ => by rw [e, ← h.len]; simp [natsV]) ev_c)) (by decide)) (bl_false rfl) fun _ H6 e6 => ?_
    have e46 := e5.trans e6
    refine q_asgL (xs := webV 5 (litK ringS)) (el_is (el_lst (ea_cons ev_c (ea_cons ev_c (ea_cons ev_c (ea_cons ev_c (ea_cons ev_c ea_nil))))) (by simp)) ring_web) fun p3 H7 p30 e7 hp3 => ?_
    have w3 : WebAt K H7 p3 5 (litK ringS) := WebAt.of hp3 ring_w (by decide)
    refine q_when (b := false) (et_is (et_or (et_not (et_B (ev_hc (ea_cons (ev_var rfl) (ea_cons ev_c (ea_cons ev_c ea_nil))) (spv_law_are_too_few (a := 2) (b := 2) w3 (by decide) (by decide))))) fun _ => et_or (et_B (ev_hc (ea_cons (ev_var rfl) (ea_cons ev_c (ea_cons ev_c ea_nil))) (spv_law_are_too_few (a := 1) (b := 2) w3 (by decide) (by decide)))) fun _ =>
      et_B (ev_hcL1 (xs := webV 1 noneK) (vs := [.int ((0 + 1 : Nat) : Nat), .int ((199 + 1 : Nat) : Nat)]) (el_is (el_lst (ea_cons ev_c ea_nil) (by simp)) one_web7) (fun H8 e8 => ea_cons ev_c (ea_cons ev_c ea_nil)) fun p H8 hp e8 => spv_law_are_too_few (a := 0) (b := 199) (WebAt.of hp (none_w 1) (by decide)) (by decide) (by decide))) (by decide +kernel)) (bl_false rfl) fun _ H8 e8 => ?_
    refine q_when (b := false) (et_is (et_not (et_B (ev_hcL1 (xs := webV 0 noneK) (vs := [.int ((0 + 1 : Nat) : Nat), .int ((0 + 1 : Nat) : Nat)]) (el_lst ea_nil (by decide)) (fun H8 e8 => ea_cons ev_c (ea_cons ev_c ea_nil)) fun p H8 hp e8 => spv_law_are_too_few (a := 0) (b := 0) (WebAt.of hp (none_w 0) (by decide)) (by decide) (by decide)))) (by decide +kernel)) (bl_false rfl) fun _ H9 e9 => ?_
    refine q_asgL (xs := webV 3 (litK starS)) (el_is (el_lst (ea_cons ev_c (ea_cons ev_c (ea_cons ev_c ea_nil))) (by simp)) star_web) fun p4 H10 p40 e10 hp4 => ?_
    have w4 : WebAt K H10 p4 3 (litK starS) := WebAt.of hp4 star_w (by decide)
    refine q_when (b := false) (et_is (et_or (et_test (ev_neUU (ns := [0, 1]) (ms := [0, 1]) (eu_hcL (xs := webV 0 noneK) (el_lst ea_nil (by decide)) fun p H hp e => by rw [← fr_empty]; exact spu_promised (WebAt.of hp (none_w 0) (by decide))) (eu_tup (ea_cons ev_c (ea_cons ev_c ea_nil)) (by simp)))) fun _ => et_or (et_test (ev_neUU (ns := [1, 1]) (ms := [1, 1]) (eu_hcL (xs := webV 1 noneK) (el_is (el_lst (ea_cons ev_c ea_nil) (by simp)) one_web7) fun p H hp e => by rw [← fr_one]; exact spu_promised (WebAt.of hp (none_w 1) (by decide))) (eu_tup (ea_cons ev_c (ea_cons ev_c ea_nil)) (by simp)))) fun _ =>
      et_test (ev_neUU (ns := [1, 1]) (ms := [1, 1]) (eu_hcL (xs := webV 2 (litK twoS)) (el_is (el_lst (ea_cons ev_c (ea_cons ev_c ea_nil)) (by simp)) two_web) fun p H hp e => by rw [← fr_two]; exact spu_promised (WebAt.of hp two_w (by decide))) (eu_tup (ea_cons ev_c (ea_cons ev_c ea_nil)) (by simp)))) (by decide)) (bl_false rfl) fun _ H11 e11 => ?_
    have e710 := (e8.trans e9).trans e10
    refine q_when (b := false) (et_is (et_or (et_test (ev_neUU (ns := [4, 3]) (ms := [4, 3]) (eu_hc (ea_cons (ev_var rfl) ea_nil) (by rw [← fr_star]; exact spu_promised (w4.ex e11))) (eu_tup (ea_cons ev_c (ea_cons ev_c ea_nil)) (by simp)))) fun _ => et_test (ev_neUU (ns := [5, 3]) (ms := [5, 3]) (eu_hc (ea_cons (ev_var rfl) ea_nil) (by rw [← fr_ring]; exact spu_promised (w3.ex (e710.trans e11)))) (eu_tup (ea_cons ev_c (ea_cons ev_c ea_nil)) (by simp)))) (by decide)) (bl_false rfl) fun _ H12 e12 => ?_
    have e1012 := e11.trans e12
    have e712 := e710.trans e1012
    have e412 := (e46.trans e7).trans e712
    have kp := t3_kept (wp_kept K)
    refine q_for3X (P := WP K) (m := 6) (elx_lst kp (eax_cons kp (evx_tup3 (wp_kept K) (evx_el (xs := webV 0 noneK) (el_lst ea_nil (by decide)) fun p H _ hp => ⟨p, 0, noneK, 0, 0, rfl, rfl, rfl, WebAt.of hp (none_w 0) (by decide), rp_empty⟩) (fun _ _ => ev_c) (fun _ _ => ev_c))
      (eax_cons kp (evx_tup3 (wp_kept K) (evx_el (xs := webV 1 noneK) (el_is (el_lst (ea_cons ev_c ea_nil) (by simp)) one_web7) fun p H _ hp => ⟨p, 1, noneK, 1, 1, rfl, rfl, rfl, WebAt.of hp (none_w 1) (by decide), rp_one⟩) (fun _ _ => ev_c) (fun _ _ => ev_c))
      (eax_cons kp (evx_tup3 (wp_kept K) (evx_of (ev_var rfl) fun H e => ⟨p4, 3, _, 2, 2, rfl, rfl, rfl, w4.ex (e1012.trans e), rp_star⟩) (fun _ _ => ev_c) (fun _ _ => ev_c))
      (eax_cons kp (evx_tup3 (wp_kept K) (evx_of (ev_var rfl) fun H e => ⟨p3, 5, _, 2, 2, rfl, rfl, rfl, w3.ex (e712.trans e), rp_ring⟩) (fun _ _ => ev_c) (fun _ _ => ev_c))
      (eax_cons kp (evx_tup3 (wp_kept K) (evx_of (ev_var rfl) fun H e => ⟨p1, 6, _, 1, 6, rfl, rfl, rfl, w1.ex (e412.trans e), rp_full⟩) (fun _ _ => ev_c) (fun _ _ => ev_c))
      (eax_cons kp (evx_tup3 (wp_kept K) (evx_of (ev_var rfl) fun H e => ⟨p2, 6, _, 6, 1, rfl, rfl, rfl, w2.ex (e412.trans e), rp_none⟩) (fun _ _ => ev_c) (fun _ _ => ev_c)) eax_nil)))))) (by decide))
      (fun Hb σ' H' => Ex Hb H' ∧ ∃ s0 s5 s6 s7 s8 s9 s10, σ' = [s0, some (.ref p1), some (.ref p2), some (.ref p3), some (.ref p4), s5, s6, s7, s8, s9, s10]) (fun H13 _ => ⟨Ex.refl _, _, _, _, _, _, _, _, rfl⟩) (fun Hb σ' H' p => p.1) (fun Hb σ' H' x y z eb hP p => ?_) fun Hb σ' H' eb p => ?_
    · obtain ⟨ex, s0, s5, s6, s7, s8, s9, s10, rfl⟩ := p
      obtain ⟨p, n, k, a, b, rfl, rfl, rfl, hw0, hr1, hr2⟩ := hP
      have hw := hw0.ex ex
      refine q_parMP (C1 := cUnknown) (C2 := cKnown) (R1 := fun xs => ∃ ps, GoodS n k ps ∧ xs = natsV ps) (R2 := fun xs => ∃ ps, GoodS n (turn k) ps ∧ xs = natsV ps) (emp_call (ea_cons (ev_var rfl) ea_nil) fun H2 e2 Q qq E => ⟨p, n, k, rfl, hw.ex e2, fun ps x H3 hG e3 hA => qq x H3 _ ⟨ps, hG, rfl⟩ e3 hA⟩)
        (fun H1 e1 => emp_call (ea_cons (ev_var rfl) ea_nil) fun H2 e2 Q qq E => ⟨p, n, k, rfl, hw.ex (e1.trans e2), fun ps x H3 hG e3 hA => qq x H3 _ ⟨ps, hG, rfl⟩ e3 hA⟩) fun x1 x2 H2 xs ys e2 ⟨ps, hG, hxs⟩ ⟨ps2, hG2, hys⟩ A1 A2 => ?_
      subst hxs hys
      have w2' := hw.ex e2
      have B1 : AnsAt H2 x1 cUnknown ((ps.map fun (i : Nat) => (i : Int)).map V.int) := by rw [← natsV_ints]; exact A1
      have B2 : AnsAt H2 x2 cKnown ((ps2.map fun (i : Nat) => (i : Int)).map V.int) := by rw [← natsV_ints]; exact A2
      have S1 : SpV (sp_Unknown_shows K cUnknown) [.ref x1, .ref p] H2 (.bl true) := by
        have := spv_Unknown_shows (C := cUnknown) B1 w2'
        rw [shows_nats hG.are hG.all] at this
        exact this
      have S2 : SpV (sp_Known_shows K cKnown) [.ref x2, .ref p] H2 (.bl true) := by
        have := spv_Known_shows (C := cKnown) B2 w2'
        rw [shows_nats hG2.are hG2.allT] at this
        exact this
      have l1 := prom_ge hG hr1
      have l2 := prom_ge hG2 hr2
      obtain ⟨d1, q1, a1, b1⟩ := id A1
      obtain ⟨d2, q2, a2, b2⟩ := id A2
      exact s_when (b := false) (et_is (et_or (et_not (et_B (ev_meth2 (c := false) (v := .bl true) (ev_var rfl) A1 (Ex.refl _) (by decide) (ea_cons (ev_var rfl) ea_nil) (fun h => nomatch h) fun _ => S1))) fun _ => et_or (et_not (et_B (ev_meth2 (c := true) (v := .bl true) (ev_var rfl) A2 (Ex.refl _) (by decide) (ea_cons (ev_var rfl) ea_nil) (fun _ => S2) fun h => nomatch h))) fun _ =>
        et_or (et_test (ev_op (ev_lenQ (EvQ.of_ev (ev_fld (ev_var rfl) T.o_Unknown a1 (Ex.refl _)) (SqL.of b1) (Ex.refl _))) (ev_var rfl) rv_I0)) fun _ => et_test (ev_op (ev_lenQ (EvQ.of_ev (ev_fld (ev_var rfl) T.o_Known a2 (Ex.refl _)) (SqL.of b2) (Ex.refl _))) (ev_var rfl) rv_I0)) (by
          simp only [natsV, List.length_map, Bool.not_true, Bool.false_or, Bool.or_eq_false_iff, decide_eq_false_iff_not]
          omega)) (bl_false rfl) fun _ H3 e3 => ⟨(ex.trans e2).trans e3, _, _, _, _, _, _, _, rfl⟩
    obtain ⟨ex, _⟩ := p
    exact s_ret ev_c fun H14 e14 => hq H14 ((((((e1.trans e2).trans e3).trans e4).trans e412).trans (eb.trans ex)).trans e14)
theorem ok_law_promises_right {P : Program} {w : World} {K : PySem.W.Frag} {mg : Str → Option Value} {base : Heap} {cAnswer cKnown cUnknown cWebError cTooFew : Addr} (T : Txt K mg cAnswer cKnown cUnknown cWebError cTooFew) (D : At K mg "_law_promises_right" s_law_promises_right []) (h_ties : Has P w K mg base CX0 2 "ties" ["web"] (sp_ties K)) (h_turned : Has P w K mg base CX0 2 "turned" ["web"] (sp_turned K)) (h_alike : Has P w K mg base CX0 2 "alike" ["web"] (sp_alike K)) (h_three : Has P w K mg base CX0 3 "three" ["web"] (sp_three K cKnown cUnknown)) (h_fewest : Has P w K mg base CX0 3 "fewest" ["size"] (sp_fewest K)) (h_web_of : Has P w K mg base CX0 3 "web_of" ["size"] (sp_web_of K)) (h_Known_shows : HasM P w K mg base CX0 2 cKnown "shows" ["self", "web"] (sp_Known_shows K cKnown)) (h_Unknown_shows : HasM P w K mg base CX0 2 cUnknown "shows" ["self", "web"] (sp_Unknown_shows K cUnknown)) (C_Known : HasMk P w K mg base CX0 1 "Known" cKnown ["self", "people"] (sp_Known___init__ K cKnown)) (C_Unknown : HasMk P w K mg base CX0 1 "Unknown" cUnknown ["self", "people"] (sp_Unknown___init__ K cUnknown)) (h_law_groups_promises : Has P w K mg base CX0 5 "_law_groups_promises" [] (sp_law_groups_promises K)) : Has P w K mg base CX0 6 "_law_promises_right" [] (sp_law_promises_right K) := by
  refine has_of D sc_law_promises_right (fun vs H Q E h => ?_) (fun f cdv A outer s H vs Q E hr h => ?_)
  · obtain ⟨rfl, _⟩ := h
    rfl
  · obtain ⟨rfl, hq⟩ := h
    refine ⟨_, (pss_cons (ps_par (i := 0) (j := 1) rfl sc_law_promises_right.nd rfl rfl (by decide) rfl rfl (pa_cons (pe_lst (pa_cons pe_str (pa_cons pe_str (pa_cons pe_str (pa_cons pe_str (pa_cons pe_str pa_nil)))))) (pa_cons (pe_lst (pa_cons pe_str (pa_cons pe_str pa_nil))) pa_nil)) (by rfl))
      (pss_cons (ps_if (PW.pt (pw_or (pt_cmpR (op_neDK K hr.units) (hcall h_ties (hr.mono (by decide)) (pa_cons (pe_lst pa_nil) pa_nil)) (pe_lst pa_nil) (nomark _)) (pw_or (pt_cmpR (op_neDK K hr.units) (hcall h_turned (hr.mono (by decide)) (pa_cons (pe_lst pa_nil) pa_nil)) (pe_lst pa_nil) (nomark _)) (pw_or (pt_cmpR (op_neDK K hr.units) (hcall h_turned (hr.mono (by decide)) (pa_cons (pv 1) pa_nil)) (pe_lst (pa_cons pe_str (pa_cons pe_str pa_nil))) (nomark _)) (pw_or1 (pt_cmpR (op_neDK K hr.units) (hcall h_turned (hr.mono (by decide)) (pa_cons (hcall h_turned (hr.mono (by decide)) (pa_cons (pv 0) pa_nil)) pa_nil)) (pv 0) (nomark _))))))) (pss_one (ps_ret pe_bl)) pss_nil)
      (pss_cons (ps_if (PW.pt (pw_or (pt_cmpR (op_neDK K hr.units) (hcall h_ties (hr.mono (by decide)) (pa_cons (pv 0) pa_nil)) (pe_op op_rep (pe_lst (pa_cons pe_int pa_nil)) pe_int) (nomark _)) (pw_or1 (pt_cmpR (op_neDK K hr.units) (hcall h_turned (hr.mono (by decide)) (pa_cons (pe_lst (pa_cons pe_str pa_nil)) pa_nil)) (pe_lst (pa_cons pe_str pa_nil)) (nomark _))))) (pss_one (ps_ret pe_bl)) pss_nil)
      (pss_cons (ps_if (PW.pt (pw_or (pt_cmpR op_ne (hcall h_alike (hr.mono (by decide)) (pa_cons (pe_lst pa_nil) pa_nil)) pe_int (nomark _)) (pw_or (pt_cmpR op_notNn (hcall h_three (hr.mono (by decide)) (pa_cons (pe_lst pa_nil) pa_nil)) pe_non (nomark _)) (pw_or (pt_cmpR op_notNn (hcall h_three (hr.mono (by decide)) (pa_cons (pv 1) pa_nil)) pe_non (nomark _)) (pw_or1 (pt_cmpR op_ne (hcall h_alike (hr.mono (by decide)) (pa_cons (pv 0) pa_nil)) pe_int (nomark _))))))) (pss_one (ps_ret pe_bl)) pss_nil)
      (pss_cons (ps_if (PW.pt (pw_or (pt_cmpR op_notNn (hcall h_three (hr.mono (by decide)) (pa_cons (pv 0) pa_nil)) pe_non (nomark _)) (pw_or1 (pt_cmpR op_ne (hcall h_alike (hr.mono (by decide)) (pa_cons (pe_op op_rep (pe_lst (pa_cons pe_str pa_nil)) pe_int) pa_nil)) pe_int (nomark _))))) (pss_one (ps_ret pe_bl)) pss_nil)
      (pss_cons (st_ 2 sc_law_promises_right.nd (pe_op op_mulA pe_int (pe_op op_pow pe_int pe_int)))
      (pss_cons (ps_if (pt_cmpR (op_neDK K hr.units) (pe_lc (own := [("_law_size", 3)]) rfl sc_law_promises_right.nd (pi_range1 rfl T.n_range (pa_cons pe_int pa_nil)) (blkOk_by (by kernel_rfl)) (fun _ _ _ _ _ => (nm 3 sc_law_promises_right.nd)) (fun _ _ _ _ _ => pts_nil) (fun _ _ _ _ _ => (hcall h_fewest (hr.mono (by decide)) (pa_cons (pv 3) pa_nil)))) (pe_lst (pa_cons pe_int (pa_cons pe_int (pa_cons pe_int (pa_cons pe_int (pa_cons pe_int (pa_cons pe_int (pa_cons pe_int (pa_cons pe_int (pa_cons pe_int (pa_cons pe_int pa_nil))))))))))) (nomark _)) (pss_one (ps_ret pe_bl)) pss_nil)
      (pss_cons (ps_if (pt_cmpR op_ne (hcall h_fewest (hr.mono (by decide)) (pa_cons (pe_op op_mulA pe_int (pv 2)) pa_nil)) (pe_op op_fdiv (pe_op op_mulA (pe_op op_mulA (pv 2) (pe_op op_sub (pv 2) pe_int)) (pe_op op_sub (pv 2) pe_int)) pe_int) (nomark _)) (pss_one (ps_ret pe_bl)) pss_nil)
      (pss_cons (ps_for PassesOwn.never rfl (pi_listK K (pe_lst (pa_cons pe_int (pa_cons pe_int (pa_cons pe_int (pa_cons pe_int (pa_cons pe_int (pa_cons pe_int (pa_cons pe_int (pa_cons pe_int (pa_cons pe_int (pa_cons pe_int (pa_cons pe_int (pa_cons pe_int pa_nil)))))))))))))) (nm 3 sc_law_promises_right.nd) (pss_cons (st_ 4 sc_law_promises_right.nd (hcall h_web_of (hr.mono (by decide)) (pa_cons (pv 3) pa_nil)))
      (pss_cons (ps_if (PW.pt (pw_or (pt_cmpR op_ne (pe_callB (cr_lenK K) (by rfl) T.n_len (by decide +kernel) (pa_cons (pv 4) pa_nil)) (pv 3) (nomark _)) (pw_or1 (pt_cmpR op_ne (hcall h_alike (hr.mono (by decide)) (pa_cons (pv 4) pa_nil)) (hcall h_fewest (hr.mono (by decide)) (pa_cons (pv 3) pa_nil)) (nomark _))))) (pss_one (ps_ret pe_bl)) pss_nil)
      (pss_one (ps_if (PW.pt (pw_and (pt_cmpR op_gt (hcall h_fewest (hr.mono (by decide)) (pa_cons (pv 3) pa_nil)) pe_int (nomark _)) (pw_and1 (PW.pt (pw_or (pt_not (pt_val (hmeth2 h_Known_shows h_Unknown_shows (hr.mono (by decide)) (hr.mono (by decide)) (hcall h_three (hr.mono (by decide)) (pa_cons (pv 4) pa_nil)) (pa_cons (pv 4) pa_nil)))) (pw_or1 (pt_cmpR op_ne (pe_callB (cr_lenK K) (by rfl) T.n_len (by decide +kernel) (pa_cons (fldK K (hcall h_three (hr.mono (by decide)) (pa_cons (pv 4) pa_nil))) pa_nil)) pe_int (nomark _)))))))) (pss_one (ps_ret pe_bl)) pss_nil)))))
      (pss_cons (st_ 5 sc_law_promises_right.nd (pe_lst (pa_cons (pe_tup (pa_cons (pe_lst pa_nil) (pa_cons (pv 1) (pa_cons pe_bl (pa_cons pe_bl pa_nil))))) (pa_cons (pe_tup (pa_cons (pe_lst (pa_cons pe_int pa_nil)) (pa_cons (pv 1) (pa_cons pe_bl (pa_cons pe_bl pa_nil))))) (pa_cons (pe_tup (pa_cons (pe_lst (pa_cons pe_int (pa_cons pe_int pa_nil))) (pa_cons (pv 1) (pa_cons pe_bl (pa_cons pe_bl pa_nil))))) pa_nil)))))
      (pss_cons (st_ 5 sc_law_promises_right.nd (pe_op op_cat (pv 5) (pe_lst (pa_cons (pe_tup (pa_cons (pe_lst (pa_cons pe_int (pa_cons pe_int pa_nil))) (pa_cons (pv 1) (pa_cons pe_bl (pa_cons pe_bl pa_nil))))) (pa_cons (pe_tup (pa_cons (pe_lst (pa_cons pe_int (pa_cons pe_int pa_nil))) (pa_cons (pv 1) (pa_cons pe_bl (pa_cons pe_bl pa_nil))))) (pa_cons (pe_tup (pa_cons (pe_lst (pa_cons (pe_un un_neg pe_int) pa_nil)) (pa_cons (pv 1) (pa_cons pe_bl (pa_cons pe_bl pa_nil))))) pa_nil))))))
      (pss_cons (st_ 5 sc_law_promises_right.nd (pe_op op_cat (pv 5) (pe_lst (pa_cons (pe_tup (pa_cons (pe_lst (pa_cons pe_int (pa_cons pe_int pa_nil))) (pa_cons (pv 1) (pa_cons pe_bl (pa_cons pe_bl pa_nil))))) (pa_cons (pe_tup (pa_cons (pe_lst (pa_cons pe_int (pa_cons pe_int pa_nil))) (pa_cons (pv 0) (pa_cons pe_bl (pa_cons pe_bl pa_nil))))) (pa_cons (pe_tup (pa_cons (pe_lst (pa_cons pe_int (pa_cons pe_int pa_nil))) (pa_cons (pv 0) (pa_cons pe_bl (pa_cons pe_bl pa_nil))))) pa_nil))))))
      (pss_cons (st_ 5 sc_law_promises_right.nd (pe_op op_cat (pv 5) (pe_lst (pa_cons (pe_tup (pa_cons (pe_lst (pa_cons pe_int (pa_cons pe_int (pa_cons pe_int pa_nil)))) (pa_cons (pv 0) (pa_cons pe_bl (pa_cons pe_bl pa_nil))))) pa_nil))))
      (pss_cons (ps_for PassesOwn.never rfl (pi_listK K (pv 5)) (pg_tupK (n := 4) K rfl (pgs_cons (nm 6 sc_law_promises_right.nd) (pgs_cons (nm 4 sc_law_promises_right.nd) (pgs_cons (nm 7 sc_law_promises_right.nd) (pgs_cons (nm 8 sc_law_promises_right.nd) pgs_nil))))) (pss_one (ps_if (PW.pt (pw_or (pt_cmpR op_ne (hmeth2 h_Known_shows h_Unknown_shows (hr.mono (by decide)) (hr.mono (by decide)) (hmake C_Known (hr.mono (by decide)) (pa_cons (pv 6) pa_nil)) (pa_cons (pv 4) pa_nil)) (pv 7) (nomark _)) (pw_or1 (pt_cmpR op_ne (hmeth2 h_Known_shows h_Unknown_shows (hr.mono (by decide)) (hr.mono (by decide)) (hmake C_Unknown (hr.mono (by decide)) (pa_cons (pv 6) pa_nil)) (pa_cons (pv 4) pa_nil)) (pv 8) (nomark _))))) (pss_one (ps_ret pe_bl)) pss_nil)))
      (pss_one (ps_ret (hcall0 h_law_groups_promises (hr.mono (by decide))))))))))))))))))), ?_⟩
    have neW : ∀ {σ : St} {H1 : Hp} {ta tb : TE} {n : Nat} {k : Rel}, EvQ K ta σ H1 (webV n k) → EvQ K tb σ H1 (webV n k) → Ev (tOp (rNeD K) ta tb) σ H1 (.bl false) := fun {σ H1 ta tb n k} h1 h2 =>
      ev_is (ev_neQS (ns := webL n k) (ms := webL n k) (by rw [← webV_eq]; exact h1) (by rw [← webV_eq]; exact h2) (webL_ok _ _) (webL_ok _ _)) (by rw [decide_eq_true rfl]; rfl)
    refine q_par2L (xs := webV 5 (litK ringS)) (ys := webV 2 (litK twoS)) (el_is (el_lst (ea_cons ev_c (ea_cons ev_c (ea_cons ev_c (ea_cons ev_c (ea_cons ev_c ea_nil))))) (by simp)) ring_web) (fun H1 e1 => el_is (el_lst (ea_cons ev_c (ea_cons ev_c ea_nil)) (by simp)) two_web) fun p0 p1 H1 e1 hp0 hp1 => ?_
    have w0 : WebAt K H1 p0 5 (litK ringS) := WebAt.of hp0 ring_w (by decide)
    have w1 : WebAt K H1 p1 2 (litK twoS) := WebAt.of hp1 two_w (by decide)
    have emp : ∀ {H2 : Hp} {p : Addr}, H2 p = some (.lst (webV 0 noneK)) → WebAt K H2 p 0 noneK := fun hp => WebAt.of hp (none_w 0) (by decide)
    have one : ∀ {H2 : Hp} {p : Addr}, H2 p = some (.lst (webV 1 noneK)) → WebAt K H2 p 1 noneK := fun hp => WebAt.of hp (none_w 1) (by decide)
    refine q_when (b := false) (et_is (et_or (et_test (ev_neQI (ns := []) (ms := []) (EvQ.of_el (el_hcL (xs := webV 0 noneK) (el_lst ea_nil (by decide)) fun p H2 hp e => spl_ties (emp hp))) (EvQ.of_el (el_lst ea_nil (by simp))))) fun _ => et_or (et_test (neW (n := 0) (k := turn noneK) (EvQ.of_el (el_hcL (xs := webV 0 noneK) (el_lst ea_nil (by decide)) fun p H2 hp e => spl_turned (emp hp))) (EvQ.of_el (el_lst ea_nil (by decide))))) fun _ =>
      et_or (et_test (neW (EvQ.of_el (el_hc (ea_cons (ev_var rfl) ea_nil) (spl_turned w1))) (EvQ.of_el (el_is (el_lst (ea_cons ev_c (ea_cons ev_c ea_nil)) (by simp)) two_turn)))) fun _ =>
      et_test (neW (EvQ.of_el (el_is (el_hcL (el_hc (ea_cons (ev_var rfl) ea_nil) (spl_turned w0)) fun p H2 hp e => spl_turned (WebAt.of hp ring_w.turn (by decide))) ring_turn)) (EvQ.of_ev (ev_var rfl) w0.seq (Ex.refl _)))) (by decide)) (bl_false rfl) fun _ H2 e2 => ?_
    refine q_when (b := false) (et_is (et_or (et_test (ev_neQI (ns := [2, 2, 2, 2, 2]) (ms := [2, 2, 2, 2, 2]) (EvQ.of_el (el_is (el_hc (ea_cons (ev_var rfl) ea_nil) (spl_ties (w0.ex e2))) ring_deg)) (EvQ.of_el (el_repG (n := 5) (el_lst (ea_cons ev_c ea_nil) (by simp)) (fun _ _ => ev_c) (by decide) (by decide) (by simp) ((flat_one _ 5).trans rfl))))) fun _ =>
      et_test (neW (EvQ.of_el (el_is (el_hcL (xs := webV 1 noneK) (el_is (el_lst (ea_cons ev_c ea_nil) (by simp)) one_web7) fun p H2 hp e => spl_turned (one hp)) one_turn)) (EvQ.of_el (el_is (el_lst (ea_cons ev_c ea_nil) (by simp)) one_web7)))) (by decide)) (bl_false rfl) fun _ H3 e3 => ?_
    have e23 := e2.trans e3
    refine q_when (b := false) (et_is (et_or (et_test (ev_neI (i := 0) (ev_hcL1 (vs := []) (xs := webV 0 noneK) (el_lst ea_nil (by decide)) (fun _ _ => ea_nil) fun p H2 hp e => al_empty ▸ spv_alike (emp hp)) ev_c)) fun _ => et_or (et_test (ev_notN (x := .non) (ev_hcL1 (vs := []) (xs := webV 0 noneK) (el_lst ea_nil (by decide)) (fun _ _ => ea_nil) fun p H2 hp e => spv_three (emp hp) an_empty) ev_c)) fun _ =>
      et_or (et_test (ev_notN (x := .non) (ev_hc (ea_cons (ev_var rfl) ea_nil) (spv_three (w1.ex e23) an_two)) ev_c)) fun _ => et_test (ev_neI (i := 0) (ev_hc (ea_cons (ev_var rfl) ea_nil) (al_ring ▸ spv_alike (w0.ex e23))) ev_c)) (by decide)) (bl_false rfl) fun _ H4 e4 => ?_
    have e24 := e23.trans e4
    refine q_when (b := false) (et_is (et_or (et_test (ev_notN (x := .non) (ev_hc (ea_cons (ev_var rfl) ea_nil) (spv_three (w0.ex e24) an_ring)) ev_c)) fun _ => et_test (ev_neI (i := 1) (ev_hcL1 (vs := []) (xs := webV 3 noneK) (el_repG (n := 3) (el_lst (ea_cons ev_c ea_nil) (by simp)) (fun _ _ => ev_c) (by decide) (by decide) (by simp) ((flat_one _ 3).trans three_web)) (fun _ _ => ea_nil) fun p H2 hp e => al_three ▸ spv_alike (WebAt.of hp (none_w 3) (by decide))) ev_c)) (by decide)) (bl_false rfl) fun _ H5 e5 => ?_
    refine q_asg (v := .int halfZ) (ev_is (ev_mulA ev_c (ev_op ev_c ev_c (rv_I ⟨by decide, by decide, by decide⟩)) (mul_small (.inl (by decide)))) (congrArg V.int half_eq)) fun H6 e6 => ?_
    refine q_when (b := false) (et_is (et_test (ev_neQI (ns := (List.range 10).map (fun i => fewestZ (i : Nat))) (ms := [0, 0, 0, 0, 0, 0, 2, 4, 8, 12]) (EvQ.of_el (el_is (el_map (fun i => V.int (fewestZ (i : Nat))) (ew_rng1 (n := 10) (ea_cons ev_c ea_nil) (by decide)) (by decide) (fun _ => rfl) fun i H7 e7 hi => ev_hc (ea_cons (ev_var rfl) ea_nil) (spv_fewest (by omega) (Int.lt_trans (show ((i : Nat) : Int) < 10 by omega) (by decide +kernel)))) (by rw [List.map_map]; rfl))) (EvQ.of_el (el_lst (ea_cons ev_c (ea_cons ev_c (ea_cons ev_c (ea_cons ev_c (ea_cons ev_c (ea_cons ev_c (ea_cons ev_c (ea_cons ev_c (ea_cons ev_c (ea_cons ev_c ea_nil)))))))))) (by simp))))) (by rw [few_ten]; decide)) (bl_false rfl) fun _ H7 e7 => ?_
    have bh : Bt 100 halfZ := by unfold Bt; decide +kernel
    have bh1 : Bt 100 (halfZ - 1) := by unfold Bt; decide +kernel
    have bh2 : Bt 100 (halfZ - 2) := by unfold Bt; decide +kernel
    refine q_when (b := false) (et_is (et_test (ev_neI (ev_hc (ea_cons (ev_mulA ev_c (ev_var rfl) (mul_small (.inl (by decide)))) ea_nil) (spv_fewest (by decide +kernel) (by decide +kernel))) (ev_fdiv (ev_mulA (ev_mulA (ev_var rfl) (ev_op (ev_var rfl) ev_c rv_I0) (bh.ok bh1)) (ev_op (ev_var rfl) ev_c rv_I0) ((bh.mul bh1).ok bh2)) ev_c ⟨by decide, by decide⟩))) (by rw [decide_eq_true half_few]; rfl)) (bl_false rfl) fun _ H8 e8 => ?_
    have e28 := (((e24.trans e5).trans e6).trans e7).trans e8
    refine q_forN (ewn_list (xs := sizesL.map V.int) (EvQ.of_el (el_lst (ea_cons ev_c (ea_cons ev_c (ea_cons ev_c (ea_cons ev_c (ea_cons ev_c (ea_cons ev_c (ea_cons ev_c (ea_cons ev_c (ea_cons ev_c (ea_cons ev_c (ea_cons ev_c (ea_cons ev_c ea_nil)))))))))))) (by decide))))
      (fun Hb i σ' H' => Ex Hb H' ∧ ∃ s2 s3 s4 s5 s6 s7 s8, σ' = [some (.ref p0), some (.ref p1), s2, s3, s4, s5, s6, s7, s8]) (fun _ _ => ⟨Ex.refl _, _, _, _, _, _, _, _, rfl⟩) (fun _ _ _ _ _ p => p.1) (fun Hb i σ' H' eb hi p => ?_) fun Hb σ' H' eb p => ?_
    · obtain ⟨ex, s2, s3, s4, s5, s6, s7, s8, rfl⟩ := p
      obtain ⟨n, hn, hnz⟩ := sizes_at i hi
      rw [hnz]
      have few : ∀ {σ : St} {H1 : Hp} {E : XK}, σ[3]? = some (some (.int (n : Nat))) → Ev (tCall (sp_fewest K) [] E (tCons (tVar 3) tNil)) σ H1 (.int (fewestZ (n : Nat))) := fun h3 => ev_hc (ea_cons (ev_var h3) ea_nil) (spv_fewest (by omega) (Int.lt_trans (show ((n : Nat) : Int) < 201 by omega) (by decide +kernel)))
      refine q_asgL (el_hc (ea_cons (ev_var rfl) ea_nil) (spl_web_of hn)) fun p H9 p9 e9 hp => ?_
      have w := WebAt.of (K := K) hp (wofK_w n) hn
      have eal : alikeZ n (wofK n) = fewestZ (n : Nat) := (alike_eq (wofK_w n)).trans (wofK_alike n)
      refine q_when (b := false) (et_is (et_or (et_test (ev_neI (ev_lenW w.seq (Ex.refl _) (ev_var rfl)) (ev_var rfl))) fun _ => et_test (ev_neI (ev_hc (ea_cons (ev_var rfl) ea_nil) (spv_alike w)) (few rfl))) (by rw [eal, decide_eq_true rfl, decide_eq_true rfl]; rfl)) (bl_false rfl) fun _ H10 e10 => ?_
      have th : 0 < fewestZ (n : Nat) → ∀ {σ : St} {H1 : Hp}, Ex H9 H1 → σ[4]? = some (some (.ref p)) → EvM2 (tCall (sp_three K cKnown cUnknown) [] E0 (tCons (tVar 4) tNil)) σ H1 cKnown cUnknown (fun c xs => ∃ f m l, f < m ∧ m < l ∧ l < n ∧ allAs (wofK n) c [f, m, l] = true ∧ xs = natsV [f, m, l]) := fun hpos {σ H1} e1 h4 =>
        em2_call (ea_cons (ev_var h4) ea_nil) fun H2 e2 Q qq => ⟨p, n, wofK n, rfl, w.ex (e1.trans e2), fun h0 => absurd h0 (by rw [wofK_alike]; omega), fun b f m l x H3 h1 h2 h3 hall e3 hA => qq b x H3 _ ⟨f, m, l, h1, h2, h3, hall, rfl⟩ e3 hA⟩
      have w10 := w.ex e10
      refine s_when (b := decide (fewestZ (n : Nat) > 0) && (!true || !decide (((3 : Nat) : Int) = 3))) (et_and (et_test (ev_op (few rfl) ev_c rv_I0)) fun hb => et_or (et_not (et_B (ev_meth2P (th (of_decide_eq_true hb) e10 rfl) (by decide) (ea_cons (ev_var rfl) ea_nil) (fun x H1 xs hP e hA => ?_) fun x H1 xs hP e hA => ?_))) fun _ => et_test (ev_neI (ev_lenFld (m := 3) (th (of_decide_eq_true hb) e10 rfl) T.o_Known T.o_Unknown fun c xs ⟨f, m, l, _, _, _, _, e⟩ => by rw [e]; rfl) ev_c)) (fun hb => by simp at hb) fun _ H11 e11 => ⟨((ex.trans e9).trans e10).trans e11, _, _, _, _, _, _, _, rfl⟩
      · obtain ⟨f, m, l, h1, h2, h3, hall, rfl⟩ := hP
        have := spv_Known_shows (C := cKnown) (ns := ([f, m, l]).map fun (i : Nat) => (i : Int)) hA (w10.ex e)
        rw [three_shows h1 h2 h3 hall] at this
        exact this
      · obtain ⟨f, m, l, h1, h2, h3, hall, rfl⟩ := hP
        have := spv_Unknown_shows (C := cUnknown) (ns := ([f, m, l]).map fun (i : Nat) => (i : Int)) hA (w10.ex e)
        rw [three_shows h1 h2 h3 hall] at this
        exact this
    obtain ⟨ex, s2, s3, s4, s5, s6, s7, s8, rfl⟩ := p
    have e2' := (e28.trans eb).trans ex
    have kp := t4_kept (cp_kept K)
    refine q_asgLX (P := T4 (CP K)) (m := 3) (elx_lst kp (eax_cons kp (evx_case [] (el_lst ea_nil (by simp)) rfl w1 e2' (by decide +kernel) (by decide +kernel)) (eax_cons kp (evx_case [0] (el_lst (ea_cons ev_c ea_nil) (by simp)) rfl w1 e2' (by decide +kernel) (by decide +kernel)) (eax_cons kp (evx_case [0, 1] (el_lst (ea_cons ev_c (ea_cons ev_c ea_nil)) (by simp)) rfl w1 e2' (by decide +kernel) (by decide +kernel)) eax_nil))) (by decide)) fun q1 H9 xs1 _ e9 hq1 hl1 hv1 => ?_
    have e9' := e2'.trans e9
    refine q_asgLX (P := T4 (CP K)) (elx_cat (m := 3) kp (ev_var rfl) hq1 (Ex.refl _) hv1 (elx_lst kp (eax_cons kp (evx_case [1, 0] (el_lst (ea_cons ev_c (ea_cons ev_c ea_nil)) (by simp)) rfl w1 e9' (by decide +kernel) (by decide +kernel)) (eax_cons kp (evx_case [0, 0] (el_lst (ea_cons ev_c (ea_cons ev_c ea_nil)) (by simp)) rfl w1 e9' (by decide +kernel) (by decide +kernel)) (eax_cons kp (evx_case [-1] (el_lst (ea_cons (ev_un ev_c ru_neg) ea_nil) (by simp)) rfl w1 e9' (by decide +kernel) (by decide +kernel)) eax_nil))) (by decide)) (by omega)) fun q2 H10 xs2 _ e10 hq2 hl2 hv2 => ?_
    have e10' := e9'.trans e10
    refine q_asgLX (P := T4 (CP K)) (elx_cat (m := 3) kp (ev_var rfl) hq2 (Ex.refl _) hv2 (elx_lst kp (eax_cons kp (evx_case [0, 9] (el_lst (ea_cons ev_c (ea_cons ev_c ea_nil)) (by simp)) rfl w1 e10' (by decide +kernel) (by decide +kernel)) (eax_cons kp (evx_case [0, 2] (el_lst (ea_cons ev_c (ea_cons ev_c ea_nil)) (by simp)) rfl w0 e10' (by decide +kernel) (by decide +kernel)) (eax_cons kp (evx_case [0, 1] (el_lst (ea_cons ev_c (ea_cons ev_c ea_nil)) (by simp)) rfl w0 e10' (by decide +kernel) (by decide +kernel)) eax_nil))) (by decide)) (by omega)) fun q3 H11 xs3 _ e11 hq3 hl3 hv3 => ?_
    have e11' := e10'.trans e11
    refine q_asgLX (P := T4 (CP K)) (elx_cat (m := 1) kp (ev_var rfl) hq3 (Ex.refl _) hv3 (elx_lst kp (eax_cons kp (evx_case [0, 1, 2] (el_lst (ea_cons ev_c (ea_cons ev_c (ea_cons ev_c ea_nil))) (by simp)) rfl w0 e11' (by decide +kernel) (by decide +kernel)) eax_nil) (by decide)) (by omega)) fun q4 H12 xs4 _ e12 hq4 hl4 hv4 => ?_
    have e12' := e11'.trans e12
    refine q_for4X (P := CP K) (ev_var rfl) hq4 hv4 (fun σ' H' => Ex H12 H' ∧ ∃ s4 s6 s7 s8, σ' = [some (.ref p0), some (.ref p1), s2, s3, s4, some (.ref q4), s6, s7, s8]) (fun H13 e13 => ⟨e13, _, _, _, _, rfl⟩) (fun _ _ p => p.1) (fun σ' H' x y z u hP p => ?_) fun σ' H' p => ?_
    · obtain ⟨ex, s4, s6, s7, s8, rfl⟩ := p
      obtain ⟨r1, ns, r2, n, k, rfl, hr1, rfl, hw0, rfl, rfl⟩ := hP
      have hw := hw0.ex ex
      have mk : EvQ K (tVar 6) [some (.ref p0), some (.ref p1), s2, s3, some (.ref r2), some (.ref q4), some (.ref r1), some (.bl (showsB n k true ns)), some (.bl (showsB n k false ns))] H' (ns.map V.int) := EvQ.of_ev (ev_var rfl) (SqL.of (ex _ _ hr1)) (Ex.refl _)
      refine s_when (b := false) (et_is (et_or (et_test (ev_neBl (ev_meth2P (v := .bl (showsB n k true ns)) (EvMP.two1 (em_makeN mk)) (by decide) (ea_cons (ev_var rfl) ea_nil) (fun x H1 xs hP e hA => ?_) fun x H1 xs hP e hA => nomatch hP.1) (ev_var rfl))) fun _ => et_test (ev_neBl (ev_meth2P (v := .bl (showsB n k false ns)) (EvMP.two2 (em_makeN (mk.mono (Ex.refl _)))) (by decide) (ea_cons (ev_var rfl) ea_nil) (fun x H1 xs hP e hA => nomatch hP.1) fun x H1 xs hP e hA => ?_) (ev_var rfl))) (by simp)) (bl_false rfl) fun _ H13 e13 => ⟨ex.trans e13, _, _, _, _, rfl⟩
      · have h2 := hP.2
        subst h2
        exact spv_Known_shows hA (hw.ex e)
      · have h2 := hP.2
        subst h2
        exact spv_Unknown_shows hA (hw.ex e)
    obtain ⟨ex3, s4', s6', s7', s8', rfl⟩ := p
    exact s_ret (ev_hc ea_nil spv_law_groups_promises) fun H13 e13 => hq H13 (((e1.trans e12').trans ex3).trans e13)
theorem fn_law {P : Program} {w : World} {K : PySem.W.Frag} {mg : Str → Option Value} {base : Heap} {cAnswer cKnown cUnknown cWebError cTooFew : Addr} {fl : Addr} {fd : FuncData} (T : Txt K mg cAnswer cKnown cUnknown cWebError cTooFew) (F : Fun K "law" "law" s_law fl fd) (h_law_promises_right : Has P w K mg base CX0 6 "_law_promises_right" [] (sp_law_promises_right K)) (h_law_number : Has P w K mg base CX0 1 "_law_number" ["_law_cell", "_law_at", "_law_whole"] (sp_law_number K)) (h_law_plain : Has P w K mg base CX0 3 "_law_plain" ["_law_thing"] (sp_law_plain K 2)) (h_sure : Has P w K mg base CX0 3 "sure" ["known", "unknown"] (sp_sure K)) (h_fewest : Has P w K mg base CX0 3 "fewest" ["size"] (sp_fewest K)) (h_web_of : Has P w K mg base CX0 3 "web_of" ["size"] (sp_web_of K)) (h_law_web_right : Has P w K mg base CX0 4 "_law_web_right" ["_law_web"] (sp_law_web_right K)) : FnOk P w K mg base CX0 7 fl fd ["_law_script"] (sp_law K) := by
  refine F.ok sc_law (fun vs H Q E h => ?_) (fun cdv A outer s H vs Q E hr h => ?_)
  · obtain ⟨a, ns, rfl, _⟩ := h
    rfl
  · obtain ⟨a, ns, rfl, hS, hlen, hbits, hq⟩ := h
    refine ⟨_, (pss_cons (ps_if (pt_not (pt_val (hcall0 h_law_promises_right (hr.mono (by decide))))) (pss_one (ps_ret pe_bl)) pss_nil)
      (pss_cons (st_ 1 sc_law.nd (pe_callB cr_abs (by rfl) T.n_abs (by decide +kernel) (pa_cons (pe_callB (cr_sumK K rfl) (by rfl) T.n_sum (by decide +kernel) (pa_cons (pe_slice (sl_listK K) (pv 0) po_none (po_some pe_int)) pa_nil)) pa_nil)))
      (pss_cons (st_ 2 sc_law.nd (pe_op op_mod (pv 1) pe_int))
      (pss_cons (ps_setLc (i := 3) (own := [("_law_one", 4)]) rfl sc_law.nd rfl rfl (sw_true rfl rfl rfl (by decide +kernel)) (pi_range1 rfl T.n_range (pa_cons (pv 2) pa_nil)) (blkOk_by (by kernel_rfl)) (fun _ _ _ _ _ => (nm 4 sc_law.nd)) (fun _ _ _ _ _ => pts_nil) (fun _ _ _ _ _ => (pe_op op_rep (pe_lst (pa_cons pe_str pa_nil)) (pv 2))))
      (pss_cons (ps_for PassesOwn.never rfl (pi_range1 rfl T.n_range (pa_cons (pv 2) pa_nil)) (nm 4 sc_law.nd) (pss_one (ps_for PassesOwn.never rfl (pi_range1 rfl T.n_range (pa_cons (pv 4) pa_nil)) (nm 5 sc_law.nd) (pss_cons (st_ 6 sc_law.nd (pe_ix ix_str pe_str (pe_op op_mod (pe_op op_fdiv (pe_callB cr_abs (by rfl) T.n_abs (by decide +kernel) (pa_cons (hcall h_law_number (hr.mono (by decide)) (pa_cons (pv 1) (pa_cons (pv 4) (pa_cons (pv 5) pa_nil)))) pa_nil)) pe_int) pe_int) (fun _ _ => rfl)))
      (pss_one (ps_asg (pe_tup (pa_cons (pv 6) (pa_cons (pv 6) pa_nil))) (pg_tupK (n := 2) K rfl (pgs_cons (pg_sub (pe_ix (ix_listK K) (pv 3) (pv 4) (fun _ _ => rfl)) (pv 5) set_list) (pgs_cons (pg_sub (pe_ix (ix_listK K) (pv 3) (pv 5) (fun _ _ => rfl)) (pv 4) set_list) pgs_nil)))))))))
      (pss_cons (ps_setLc (i := 7) (own := [("_law_row", 8)]) rfl sc_law.nd rfl rfl (sw_true rfl rfl rfl (by decide +kernel)) (pi_listK K (pv 3)) (blkOk_by (by kernel_rfl)) (fun _ _ _ _ _ => (nm 8 sc_law.nd)) (fun _ _ _ _ _ => pts_nil) (fun _ _ _ _ _ => (bmK K PySem.F.plainAttrs_str PySem.F.slot_str_join PySem.F.type_str_join (mt_joinK K) pe_str (pa_cons (pv 8) pa_nil))))
      (pss_cons (ps_if (pt_not (pt_val (hcall h_law_plain (hr.mono (by decide)) (pa_cons (pe_lst (pa_cons (hcall h_fewest (hr.mono (by decide)) (pa_cons (pe_op op_mod (pv 1) pe_int) pa_nil)) (pa_cons (hcall h_fewest (hr.mono (by decide)) (pa_cons pe_int pa_nil)) (pa_cons (hcall h_fewest (hr.mono (by decide)) (pa_cons pe_int pa_nil)) (pa_cons (hcall h_sure (hr.mono (by decide)) (pa_cons pe_int (pa_cons pe_int pa_nil))) (pa_cons (hcall h_sure (hr.mono (by decide)) (pa_cons pe_int (pa_cons pe_int pa_nil))) (pa_cons (hcall h_sure (hr.mono (by decide)) (pa_cons pe_int (pa_cons (pe_op op_add pe_int (pe_op op_mod (pv 1) pe_int)) pa_nil))) pa_nil))))))) pa_nil)))) (pss_one (ps_ret pe_bl)) pss_nil)
      (pss_one (ps_ret (pe_callB (cr_allK K rfl) (by rfl) T.n_all (by decide +kernel) (pa_cons (pe_lc (own := [("_law_web", 9)]) rfl sc_law.nd (pi_listK K (pe_lst (pa_cons (pv 7) (pa_cons (pe_lst pa_nil) (pa_cons (pe_lst (pa_cons pe_str pa_nil)) (pa_cons (pe_lst (pa_cons pe_str (pa_cons pe_str pa_nil))) (pa_cons (hcall h_web_of (hr.mono (by decide)) (pa_cons pe_int pa_nil)) (pa_cons (hcall h_web_of (hr.mono (by decide)) (pa_cons (pe_op op_mod (pv 1) pe_int) pa_nil)) pa_nil)))))))) (blkOk_by (by kernel_rfl)) (fun _ _ _ _ _ => (nm 9 sc_law.nd)) (fun _ _ _ _ _ => pts_nil) (fun _ _ _ _ _ => (hcall h_law_web_right (hr.mono (by decide)) (pa_cons (pv 9) pa_nil)))) pa_nil))))))))))), ?_⟩
    refine q_when (b := false) (et_is (et_not (et_B (ev_hc ea_nil spv_law_promises_right))) rfl) (bl_false rfl) fun _ H1 e1 => ?_
    have esum : ∀ {σ : St} {H1 : Hp} {te : TE}, Ex H H1 → Ev te σ H1 (.ref a) → Ev (tCB (rSum K) (tCons (tSl (rSlL K) te tNoPart (tPart (tC (.int 63)))) tNil)) σ H1 (.int (ns.take 63).sum) := fun e h =>
      ev_sumQ (ns := ns.take 63) (EvQ.of_el (el_is (el_slQ (EvQ.of_ev h (ex_l e hS) (Ex.refl _)) eo_none (eo_some ev_c)) ((cut_take _ 63).trans List.map_take.symm)))
    have bsum : Bt (1048576 + 63) (ns.take 63).sum := Bt.sum (fun x hx => hbits x (List.mem_of_mem_take hx)) (by rw [List.length_take]; omega)
    generalize (ns.take 63).sum = z at esum bsum
    refine q_asg (ev_abs (esum e1 (ev_var rfl))) fun H2 e2 => ?_
    have hW : ∃ W : Int, W = (if z < 0 then -z else z) := ⟨_, rfl⟩
    obtain ⟨W, hW⟩ := hW
    rw [← hW]
    have bW : Bt (1048576 + 63) W := by
      unfold Bt at bsum ⊢
      have : W.natAbs = z.natAbs := by rw [hW]; split <;> omega
      rw [this]; exact bsum
    have W0 : 0 ≤ W := by rw [hW]; split <;> omega
    clear hW
    obtain ⟨m, hm, hm9⟩ : ∃ m : Nat, W % 9 = (m : Nat) ∧ m < 9 := ⟨(W % 9).toNat, by omega, by omega⟩
    refine q_asg (v := .int (m : Nat)) (ev_is (ev_mod (ev_var rfl) ev_c (by decide)) (by rw [hm])) fun H3 e3 => ?_
    refine q_asgR (er_lc (fun _ => sgRow m fun _ => false) (ew_rng1 (n := m) (ea_cons (ev_var rfl) ea_nil) (by omega)) (by omega) (fun _ => rfl) fun i H5 e5 hi => el_repR (el_lst (ea_cons ev_c ea_nil) (by decide)) (fun H2 e2 => ev_var rfl) (by omega)) fun g ps H4 e4 hps r => ?_
    have e03 := (e1.trans e2).trans e3
    refine q_for (Hw := H3) (ew_rng1 (n := m) (ea_cons (ev_var rfl) ea_nil) (by omega)) (fun i σ' H' => Ex H3 H' ∧ ∃ k : Rel, IsW m k ∧ RowsP H3 H' g ps (fun a => sgRow m (k a)) ∧ ∃ s4 s5 s6 s7, σ' = [some (.ref a), some (.int W), some (.int (m : Nat)), some (.ref g), s4, s5, s6, s7, none, none])
      (fun H' e => ⟨e4.trans e, fun _ _ => false, ⟨fun _ _ _ _ => rfl, fun _ _ => rfl⟩, r.ex e, _, _, _, _, rfl⟩) (fun i σ' H' _ p => p.1) (fun i σ' H' hi p => ?_) fun σ' H' p => ?_
    · obtain ⟨ex, k, hk, r, s4, s5, s6, s7, rfl⟩ := p
      refine s_for (Hw := H3) (ew_rng1 (n := i) (ea_cons (ev_var rfl) ea_nil) (by omega)) (fun j σ' H' => Ex H3 H' ∧ ∃ k : Rel, IsW m k ∧ RowsP H3 H' g ps (fun a => sgRow m (k a)) ∧ ∃ s5 s6 s7, σ' = [some (.ref a), some (.int W), some (.int (m : Nat)), some (.ref g), some (.int (i : Nat)), s5, s6, s7, none, none])
        (fun H' e => ⟨ex.trans e, k, hk, r.ex e, _, _, _, rfl⟩) (fun i σ' H' _ p => p.1) (fun j σ' H' hj p => ?_) fun σ' H' p => ?_
      · obtain ⟨ex, k, hk, r, s5, s6, s7, rfl⟩ := p
        have hnum := ev_fdiv (σ := [some (.ref a), some (.int W), some (.int (m : Nat)), some (.ref g), some (.int (i : Nat)), some (.int (j : Nat)), s6, s7, none, none]) (H := H') (ev_abs (ev_hc (E := E0) (ea_cons (ev_var (i := 1) rfl) (ea_cons (ev_var (i := 4) rfl) (ea_cons (ev_var (i := 5) rfl) ea_nil))) (spv_law_number (K := K) (c := W) (a := (i : Nat)) (w := (j : Nat)) (bW.mono (by decide)) (by omega) (by omega)))) (ev_c (v := .int 3)) ⟨by decide, by decide⟩
        generalize (if lawNum7 W (i : Nat) (j : Nat) < 0 then -lawNum7 W (i : Nat) (j : Nat) else lawNum7 W (i : Nat) (j : Nat)) / 3 = num at hnum
        obtain ⟨c, hc, hcs⟩ := xd_ix (r := num % 2) (by omega) (by omega)
        refine q_asg (ev_op ev_c (ev_mod hnum ev_c (by decide)) (rv_ixS (by decide +kernel) hc)) fun H7 e7 => ?_
        rw [hcs]
        generalize decide (num % 2 = 0) = b
        refine q_setBoth (r.ex e7) (ev_var rfl) rfl rfl rfl (by omega) (by omega) (by omega) (by rw [sgRow_len]; omega) (by rw [sgRow_len]; omega) fun H8 p1 p2 e8 h1 h2 r8 => ⟨Ex.mut (Ex.mut ((ex.trans e7).trans e8) h1) h2, putB k i j b, putB_w hk hj, r8.congr fun a _ => putB_rows hj a, _, _, _, rfl⟩
      · obtain ⟨ex, k, hk, r, s5, s6, s7, rfl⟩ := p
        exact ⟨ex, k, hk, r, _, _, _, _, rfl⟩
    obtain ⟨ex, k, hk, r, s4, s5, s6, s7, rfl⟩ := p
    refine q_asgL (el_joinRows r hps (by omega) (ev_var rfl) (fun _ => rfl) fun _ => rfl) fun p H5 _ e5 hp => ?_
    have w : WebAt K H5 p m k := WebAt.of hp hk (by omega)
    have few : ∀ {σ : St} {H1 : Hp} {E : XK} {te : TE} {x : Int}, Ev te σ H1 (.int x) → 0 ≤ x → x < 100 → Ev (tCall (sp_fewest K) [] E (tCons te tNil)) σ H1 (.int (fewestZ x)) := fun h h0 h1 => ev_hc (ea_cons h ea_nil) (spv_fewest h0 (Int.lt_trans h1 (by decide +kernel)))
    have su : ∀ {σ : St} {H1 : Hp} {E : XK} {tx ty : TE} {x y : Int} (a b : Nat), a ≤ 199 → b ≤ 199 → Ev tx σ H1 (.int x) → (∀ H2, Ex H1 H2 → Ev ty σ H2 (.int y)) → x = ((a + 1 : Nat) : Int) → y = ((b + 1 : Nat) : Int) → Ev (tCall (sp_sure K) [] E (tCons tx (tCons ty tNil))) σ H1 (.int (ram a b : Nat)) := fun a b ha hb h1 h2 hx hy => by
      subst hx hy
      exact ev_hc (ea_cons h1 (ea_cons (h2 _ (Ex.refl _)) ea_nil)) (spv_sure ha hb)
    refine q_when (b := false) (et_is (et_not (et_B (ev_hcL (xs := ([fewestZ (W % 50), fewestZ 0, fewestZ 6, ((ram 0 0 : Nat) : Int), (ram 2 2 : Nat), (ram 1 (W % 9).toNat : Nat)] : List Int).map V.int) (el_lst (ea_cons (few (ev_mod (ev_var rfl) ev_c (by decide)) (by omega) (by omega)) (ea_cons (few ev_c (by decide) (by decide)) (ea_cons (few ev_c (by decide) (by decide)) (ea_cons (su 0 0 (by decide) (by decide) ev_c (fun _ _ => ev_c) rfl rfl) (ea_cons (su 2 2 (by decide) (by decide) ev_c (fun _ _ => ev_c) rfl rfl) (ea_cons (su 1 (W % 9).toNat (by decide) (by omega) ev_c (fun _ _ => ev_op ev_c (ev_mod (ev_var rfl) ev_c (by decide)) rv_I0) rfl (by omega)) ea_nil)))))) (by simp)) fun q H6 hq6 e6 => spv_law_plain (Plain.ints 1 hq6 (by simp))))) rfl) (bl_false rfl) fun _ H6 e6 => ?_
    have kp := wbX_kept K
    obtain ⟨m2, hm2, hm12⟩ : ∃ m2 : Nat, W % 12 = (m2 : Nat) ∧ m2 < 12 := ⟨(W % 12).toNat, by omega, by omega⟩
    refine s_ret (ev_allLX (P := WbX K) (m := 6) (elx_lst kp (eax_cons kp (evx_of (ev_var rfl) fun H7 e7 => ⟨p, m, k, rfl, w.ex (e6.trans e7)⟩) (eax_cons kp (evx_el (xs := webV 0 noneK) (el_lst ea_nil (by decide)) fun q H7 _ hq7 => ⟨q, 0, _, rfl, WebAt.of hq7 (none_w 0) (by decide)⟩) (eax_cons kp (evx_el (xs := webV 1 noneK) (el_is (el_lst (ea_cons ev_c ea_nil) (by simp)) one_web7) fun q H7 _ hq7 => ⟨q, 1, _, rfl, WebAt.of hq7 (none_w 1) (by decide)⟩) (eax_cons kp (evx_el (xs := webV 2 (litK twoS)) (el_is (el_lst (ea_cons ev_c (ea_cons ev_c ea_nil)) (by simp)) two_web) fun q H7 _ hq7 => ⟨q, 2, _, rfl, WebAt.of hq7 two_w (by decide)⟩)
      (eax_cons kp (evx_el (xs := webV 6 (wofK 6)) (el_hc (ea_cons ev_c ea_nil) (spl_web_of (n := 6) (by decide))) fun q H7 _ hq7 => ⟨q, 6, _, rfl, WebAt.of hq7 (wofK_w 6) (by decide)⟩) (eax_cons kp (evx_el (xs := webV m2 (wofK m2)) (el_hc (ea_cons (ev_is (ev_mod (ev_var rfl) ev_c (by decide)) (by rw [hm2])) ea_nil) (spl_web_of (n := m2) (by omega))) fun q H7 _ hq7 => ⟨q, m2, _, rfl, WebAt.of hq7 (wofK_w m2) (by omega)⟩) eax_nil)))))) (by decide)) (by decide) kp (fun _ => rfl) fun v H7 e7 ⟨q, n, k', hv, hw⟩ => by
        subst hv
        exact ev_hc (ea_cons (ev_var rfl) ea_nil) (spv_law_web_right hw)) fun H8 e8 => hq H8 ((((e03.trans ex).trans e5).trans e6).trans e8)
theorem all_mk {P : Program} {w : World} {K : PySem.W.Frag} {h : Heap} {mg : Str → Option Value} {fa : Addr} (X : K.In h) (G : h.Ns mainGlobals mg) (hfa : mg "law" = some (.ref fa))
    {f0 : Addr} {od0 an0 : Option Addr} {sl0 : Array (Option Value)} {oc0 kV0 dc0 pm0 cd0 ct0 : Value}
    (a0 : PySem.W.nsIn K mainGlobals "is_number" = some (some (.ref f0))) (l0 : K.lookup f0 = some ⟨oc0, od0, .func (PySem.W.fnOf "is_number" "is_number" (defArgs s_is_number) (defBody s_is_number) (defScope s_is_number) .none kV0 dc0 pm0 an0 cd0 ct0), sl0⟩) (c0 : PySem.W.codeIn K cd0 "is_number" = true) (k0 : PySem.W.keepIn K (.ref f0) = true)
    {f1 : Addr} {od1 an1 : Option Addr} {sl1 : Array (Option Value)} {oc1 kV1 dc1 pm1 cd1 ct1 : Value}
    (a1 : PySem.W.nsIn K mainGlobals "asked_web" = some (some (.ref f1))) (l1 : K.lookup f1 = some ⟨oc1, od1, .func (PySem.W.fnOf "asked_web" "asked_web" (defArgs s_asked_web) (defBody s_asked_web) (defScope s_asked_web) .none kV1 dc1 pm1 an1 cd1 ct1), sl1⟩) (c1 : PySem.W.codeIn K cd1 "asked_web" = true) (k1 : PySem.W.keepIn K (.ref f1) = true)
    {f2 : Addr} {od2 an2 : Option Addr} {sl2 : Array (Option Value)} {oc2 kV2 dc2 pm2 cd2 ct2 : Value}
    (a2 : PySem.W.nsIn K mainGlobals "ties" = some (some (.ref f2))) (l2 : K.lookup f2 = some ⟨oc2, od2, .func (PySem.W.fnOf "ties" "ties" (defArgs s_ties) (defBody s_ties) (defScope s_ties) .none kV2 dc2 pm2 an2 cd2 ct2), sl2⟩) (c2 : PySem.W.codeIn K cd2 "ties" = true) (k2 : PySem.W.keepIn K (.ref f2) = true)
    {f3 : Addr} {od3 an3 : Option Addr} {sl3 : Array (Option Value)} {oc3 kV3 dc3 pm3 cd3 ct3 : Value}
    (a3 : PySem.W.nsIn K mainGlobals "turned_of" = some (some (.ref f3))) (l3 : K.lookup f3 = some ⟨oc3, od3, .func (PySem.W.fnOf "turned_of" "turned_of" (defArgs s_turned_of) (defBody s_turned_of) (defScope s_turned_of) .none kV3 dc3 pm3 an3 cd3 ct3), sl3⟩) (c3 : PySem.W.codeIn K cd3 "turned_of" = true) (k3 : PySem.W.keepIn K (.ref f3) = true)
    {f4 : Addr} {od4 an4 : Option Addr} {sl4 : Array (Option Value)} {oc4 kV4 dc4 pm4 cd4 ct4 : Value}
    (a4 : PySem.W.nsIn K mainGlobals "turned" = some (some (.ref f4))) (l4 : K.lookup f4 = some ⟨oc4, od4, .func (PySem.W.fnOf "turned" "turned" (defArgs s_turned) (defBody s_turned) (defScope s_turned) .none kV4 dc4 pm4 an4 cd4 ct4), sl4⟩) (c4 : PySem.W.codeIn K cd4 "turned" = true) (k4 : PySem.W.keepIn K (.ref f4) = true)
    {f5 : Addr} {od5 an5 : Option Addr} {sl5 : Array (Option Value)} {oc5 kV5 dc5 pm5 cd5 ct5 : Value}
    (a5 : PySem.W.nsIn K mainGlobals "all_as" = some (some (.ref f5))) (l5 : K.lookup f5 = some ⟨oc5, od5, .func (PySem.W.fnOf "all_as" "all_as" (defArgs s_all_as) (defBody s_all_as) (defScope s_all_as) .none kV5 dc5 pm5 an5 cd5 ct5), sl5⟩) (c5 : PySem.W.codeIn K cd5 "all_as" = true) (k5 : PySem.W.keepIn K (.ref f5) = true)
    {f6 : Addr} {od6 an6 : Option Addr} {sl6 : Array (Option Value)} {oc6 kV6 dc6 pm6 cd6 ct6 : Value}
    (a6 : PySem.W.nsIn K mainGlobals "are_people" = some (some (.ref f6))) (l6 : K.lookup f6 = some ⟨oc6, od6, .func (PySem.W.fnOf "are_people" "are_people" (defArgs s_are_people) (defBody s_are_people) (defScope s_are_people) .none kV6 dc6 pm6 an6 cd6 ct6), sl6⟩) (c6 : PySem.W.codeIn K cd6 "are_people" = true) (k6 : PySem.W.keepIn K (.ref f6) = true)
    {f7 : Addr} {od7 an7 : Option Addr} {sl7 : Array (Option Value)} {oc7 kV7 dc7 pm7 cd7 ct7 : Value}
    (a7 : PySem.W.nsIn K mainGlobals "alike" = some (some (.ref f7))) (l7 : K.lookup f7 = some ⟨oc7, od7, .func (PySem.W.fnOf "alike" "alike" (defArgs s_alike) (defBody s_alike) (defScope s_alike) .none kV7 dc7 pm7 an7 cd7 ct7), sl7⟩) (c7 : PySem.W.codeIn K cd7 "alike" = true) (k7 : PySem.W.keepIn K (.ref f7) = true)
    {f8 : Addr} {od8 an8 : Option Addr} {sl8 : Array (Option Value)} {oc8 kV8 dc8 pm8 cd8 ct8 : Value}
    (a8 : PySem.W.nsIn K mainGlobals "three" = some (some (.ref f8))) (l8 : K.lookup f8 = some ⟨oc8, od8, .func (PySem.W.fnOf "three" "three" (defArgs s_three) (defBody s_three) (defScope s_three) .none kV8 dc8 pm8 an8 cd8 ct8), sl8⟩) (c8 : PySem.W.codeIn K cd8 "three" = true) (k8 : PySem.W.keepIn K (.ref f8) = true)
    {f9 : Addr} {od9 an9 : Option Addr} {sl9 : Array (Option Value)} {oc9 kV9 dc9 pm9 cd9 ct9 : Value}
    (a9 : PySem.W.nsIn K mainGlobals "asked_size" = some (some (.ref f9))) (l9 : K.lookup f9 = some ⟨oc9, od9, .func (PySem.W.fnOf "asked_size" "asked_size" (defArgs s_asked_size) (defBody s_asked_size) (defScope s_asked_size) .none kV9 dc9 pm9 an9 cd9 ct9), sl9⟩) (c9 : PySem.W.codeIn K cd9 "asked_size" = true) (k9 : PySem.W.keepIn K (.ref f9) = true)
    {f10 : Addr} {od10 an10 : Option Addr} {sl10 : Array (Option Value)} {oc10 kV10 dc10 pm10 cd10 ct10 : Value}
    (a10 : PySem.W.nsIn K mainGlobals "fewest" = some (some (.ref f10))) (l10 : K.lookup f10 = some ⟨oc10, od10, .func (PySem.W.fnOf "fewest" "fewest" (defArgs s_fewest) (defBody s_fewest) (defScope s_fewest) .none kV10 dc10 pm10 an10 cd10 ct10), sl10⟩) (c10 : PySem.W.codeIn K cd10 "fewest" = true) (k10 : PySem.W.keepIn K (.ref f10) = true)
    {f11 : Addr} {od11 an11 : Option Addr} {sl11 : Array (Option Value)} {oc11 kV11 dc11 pm11 cd11 ct11 : Value}
    (a11 : PySem.W.nsIn K mainGlobals "web_of" = some (some (.ref f11))) (l11 : K.lookup f11 = some ⟨oc11, od11, .func (PySem.W.fnOf "web_of" "web_of" (defArgs s_web_of) (defBody s_web_of) (defScope s_web_of) .none kV11 dc11 pm11 an11 cd11 ct11), sl11⟩) (c11 : PySem.W.codeIn K cd11 "web_of" = true) (k11 : PySem.W.keepIn K (.ref f11) = true)
    {f12 : Addr} {od12 an12 : Option Addr} {sl12 : Array (Option Value)} {oc12 kV12 dc12 pm12 cd12 ct12 : Value}
    (a12 : PySem.W.nsIn K mainGlobals "asked_group" = some (some (.ref f12))) (l12 : K.lookup f12 = some ⟨oc12, od12, .func (PySem.W.fnOf "asked_group" "asked_group" (defArgs s_asked_group) (defBody s_asked_group) (defScope s_asked_group) .none kV12 dc12 pm12 an12 cd12 ct12), sl12⟩) (c12 : PySem.W.codeIn K cd12 "asked_group" = true) (k12 : PySem.W.keepIn K (.ref f12) = true)
    {f13 : Addr} {od13 an13 : Option Addr} {sl13 : Array (Option Value)} {oc13 kV13 dc13 pm13 cd13 ct13 : Value}
    (a13 : PySem.W.nsIn K mainGlobals "sure_of" = some (some (.ref f13))) (l13 : K.lookup f13 = some ⟨oc13, od13, .func (PySem.W.fnOf "sure_of" "sure_of" (defArgs s_sure_of) (defBody s_sure_of) (defScope s_sure_of) .none kV13 dc13 pm13 an13 cd13 ct13), sl13⟩) (c13 : PySem.W.codeIn K cd13 "sure_of" = true) (k13 : PySem.W.keepIn K (.ref f13) = true)
    {f14 : Addr} {od14 an14 : Option Addr} {sl14 : Array (Option Value)} {oc14 kV14 dc14 pm14 cd14 ct14 : Value}
    (a14 : PySem.W.nsIn K mainGlobals "sure" = some (some (.ref f14))) (l14 : K.lookup f14 = some ⟨oc14, od14, .func (PySem.W.fnOf "sure" "sure" (defArgs s_sure) (defBody s_sure) (defScope s_sure) .none kV14 dc14 pm14 an14 cd14 ct14), sl14⟩) (c14 : PySem.W.codeIn K cd14 "sure" = true) (k14 : PySem.W.keepIn K (.ref f14) = true)
    {f15 : Addr} {od15 an15 : Option Addr} {sl15 : Array (Option Value)} {oc15 kV15 dc15 pm15 cd15 ct15 : Value}
    (a15 : PySem.W.nsIn K mainGlobals "found" = some (some (.ref f15))) (l15 : K.lookup f15 = some ⟨oc15, od15, .func (PySem.W.fnOf "found" "found" (defArgs s_found) (defBody s_found) (defScope s_found) .none kV15 dc15 pm15 an15 cd15 ct15), sl15⟩) (c15 : PySem.W.codeIn K cd15 "found" = true) (k15 : PySem.W.keepIn K (.ref f15) = true)
    {f16 : Addr} {od16 an16 : Option Addr} {sl16 : Array (Option Value)} {oc16 kV16 dc16 pm16 cd16 ct16 : Value}
    (a16 : PySem.W.nsIn K mainGlobals "common" = some (some (.ref f16))) (l16 : K.lookup f16 = some ⟨oc16, od16, .func (PySem.W.fnOf "common" "common" (defArgs s_common) (defBody s_common) (defScope s_common) .none kV16 dc16 pm16 an16 cd16 ct16), sl16⟩) (c16 : PySem.W.codeIn K cd16 "common" = true) (k16 : PySem.W.keepIn K (.ref f16) = true)
    {f17 : Addr} {od17 an17 : Option Addr} {sl17 : Array (Option Value)} {oc17 kV17 dc17 pm17 cd17 ct17 : Value}
    (a17 : PySem.W.nsIn K mainGlobals "promised_by" = some (some (.ref f17))) (l17 : K.lookup f17 = some ⟨oc17, od17, .func (PySem.W.fnOf "promised_by" "promised_by" (defArgs s_promised_by) (defBody s_promised_by) (defScope s_promised_by) .none kV17 dc17 pm17 an17 cd17 ct17), sl17⟩) (c17 : PySem.W.codeIn K cd17 "promised_by" = true) (k17 : PySem.W.keepIn K (.ref f17) = true)
    {f18 : Addr} {od18 an18 : Option Addr} {sl18 : Array (Option Value)} {oc18 kV18 dc18 pm18 cd18 ct18 : Value}
    (a18 : PySem.W.nsIn K mainGlobals "promised" = some (some (.ref f18))) (l18 : K.lookup f18 = some ⟨oc18, od18, .func (PySem.W.fnOf "promised" "promised" (defArgs s_promised) (defBody s_promised) (defScope s_promised) .none kV18 dc18 pm18 an18 cd18 ct18), sl18⟩) (c18 : PySem.W.codeIn K cd18 "promised" = true) (k18 : PySem.W.keepIn K (.ref f18) = true)
    {f19 : Addr} {od19 an19 : Option Addr} {sl19 : Array (Option Value)} {oc19 kV19 dc19 pm19 cd19 ct19 : Value}
    (a19 : PySem.W.nsIn K mainGlobals "strangers_of" = some (some (.ref f19))) (l19 : K.lookup f19 = some ⟨oc19, od19, .func (PySem.W.fnOf "strangers_of" "strangers_of" (defArgs s_strangers_of) (defBody s_strangers_of) (defScope s_strangers_of) .none kV19 dc19 pm19 an19 cd19 ct19), sl19⟩) (c19 : PySem.W.codeIn K cd19 "strangers_of" = true) (k19 : PySem.W.keepIn K (.ref f19) = true)
    {f20 : Addr} {od20 an20 : Option Addr} {sl20 : Array (Option Value)} {oc20 kV20 dc20 pm20 cd20 ct20 : Value}
    (a20 : PySem.W.nsIn K mainGlobals "strangers" = some (some (.ref f20))) (l20 : K.lookup f20 = some ⟨oc20, od20, .func (PySem.W.fnOf "strangers" "strangers" (defArgs s_strangers) (defBody s_strangers) (defScope s_strangers) .none kV20 dc20 pm20 an20 cd20 ct20), sl20⟩) (c20 : PySem.W.codeIn K cd20 "strangers" = true) (k20 : PySem.W.keepIn K (.ref f20) = true)
    {f21 : Addr} {od21 an21 : Option Addr} {sl21 : Array (Option Value)} {oc21 kV21 dc21 pm21 cd21 ct21 : Value}
    (a21 : PySem.W.nsIn K mainGlobals "friends" = some (some (.ref f21))) (l21 : K.lookup f21 = some ⟨oc21, od21, .func (PySem.W.fnOf "friends" "friends" (defArgs s_friends) (defBody s_friends) (defScope s_friends) .none kV21 dc21 pm21 an21 cd21 ct21), sl21⟩) (c21 : PySem.W.codeIn K cd21 "friends" = true) (k21 : PySem.W.keepIn K (.ref f21) = true)
    {f22 : Addr} {od22 an22 : Option Addr} {sl22 : Array (Option Value)} {oc22 kV22 dc22 pm22 cd22 ct22 : Value}
    (a22 : PySem.W.nsIn K mainGlobals "_law_number" = some (some (.ref f22))) (l22 : K.lookup f22 = some ⟨oc22, od22, .func (PySem.W.fnOf "_law_number" "_law_number" (defArgs s_law_number) (defBody s_law_number) (defScope s_law_number) .none kV22 dc22 pm22 an22 cd22 ct22), sl22⟩) (c22 : PySem.W.codeIn K cd22 "_law_number" = true) (k22 : PySem.W.keepIn K (.ref f22) = true)
    {f23 : Addr} {od23 an23 : Option Addr} {sl23 : Array (Option Value)} {oc23 kV23 dc23 pm23 cd23 ct23 : Value}
    (a23 : PySem.W.nsIn K mainGlobals "_law_plain" = some (some (.ref f23))) (l23 : K.lookup f23 = some ⟨oc23, od23, .func (PySem.W.fnOf "_law_plain" "_law_plain" (defArgs s_law_plain) (defBody s_law_plain) (defScope s_law_plain) .none kV23 dc23 pm23 an23 cd23 ct23), sl23⟩) (c23 : PySem.W.codeIn K cd23 "_law_plain" = true) (k23 : PySem.W.keepIn K (.ref f23) = true)
    {f24 : Addr} {od24 an24 : Option Addr} {sl24 : Array (Option Value)} {oc24 kV24 dc24 pm24 cd24 ct24 : Value}
    (a24 : PySem.W.nsIn K mainGlobals "_law_truths" = some (some (.ref f24))) (l24 : K.lookup f24 = some ⟨oc24, od24, .func (PySem.W.fnOf "_law_truths" "_law_truths" (defArgs s_law_truths) (defBody s_law_truths) (defScope s_law_truths) .none kV24 dc24 pm24 an24 cd24 ct24), sl24⟩) (c24 : PySem.W.codeIn K cd24 "_law_truths" = true) (k24 : PySem.W.keepIn K (.ref f24) = true)
    {f25 : Addr} {od25 an25 : Option Addr} {sl25 : Array (Option Value)} {oc25 kV25 dc25 pm25 cd25 ct25 : Value}
    (a25 : PySem.W.nsIn K mainGlobals "_law_web_right" = some (some (.ref f25))) (l25 : K.lookup f25 = some ⟨oc25, od25, .func (PySem.W.fnOf "_law_web_right" "_law_web_right" (defArgs s_law_web_right) (defBody s_law_web_right) (defScope s_law_web_right) .none kV25 dc25 pm25 an25 cd25 ct25), sl25⟩) (c25 : PySem.W.codeIn K cd25 "_law_web_right" = true) (k25 : PySem.W.keepIn K (.ref f25) = true)
    {f26 : Addr} {od26 an26 : Option Addr} {sl26 : Array (Option Value)} {oc26 kV26 dc26 pm26 cd26 ct26 : Value}
    (a26 : PySem.W.nsIn K mainGlobals "_law_are_too_few" = some (some (.ref f26))) (l26 : K.lookup f26 = some ⟨oc26, od26, .func (PySem.W.fnOf "_law_are_too_few" "_law_are_too_few" (defArgs s_law_are_too_few) (defBody s_law_are_too_few) (defScope s_law_are_too_few) .none kV26 dc26 pm26 an26 cd26 ct26), sl26⟩) (c26 : PySem.W.codeIn K cd26 "_law_are_too_few" = true) (k26 : PySem.W.keepIn K (.ref f26) = true)
    {f27 : Addr} {od27 an27 : Option Addr} {sl27 : Array (Option Value)} {oc27 kV27 dc27 pm27 cd27 ct27 : Value}
    (a27 : PySem.W.nsIn K mainGlobals "_law_groups_promises" = some (some (.ref f27))) (l27 : K.lookup f27 = some ⟨oc27, od27, .func (PySem.W.fnOf "_law_groups_promises" "_law_groups_promises" (defArgs s_law_groups_promises) (defBody s_law_groups_promises) (defScope s_law_groups_promises) .none kV27 dc27 pm27 an27 cd27 ct27), sl27⟩) (c27 : PySem.W.codeIn K cd27 "_law_groups_promises" = true) (k27 : PySem.W.keepIn K (.ref f27) = true)
    {f28 : Addr} {od28 an28 : Option Addr} {sl28 : Array (Option Value)} {oc28 kV28 dc28 pm28 cd28 ct28 : Value}
    (a28 : PySem.W.nsIn K mainGlobals "_law_promises_right" = some (some (.ref f28))) (l28 : K.lookup f28 = some ⟨oc28, od28, .func (PySem.W.fnOf "_law_promises_right" "_law_promises_right" (defArgs s_law_promises_right) (defBody s_law_promises_right) (defScope s_law_promises_right) .none kV28 dc28 pm28 an28 cd28 ct28), sl28⟩) (c28 : PySem.W.codeIn K cd28 "_law_promises_right" = true) (k28 : PySem.W.keepIn K (.ref f28) = true)
    {f29 : Addr} {od29 an29 : Option Addr} {sl29 : Array (Option Value)} {oc29 kV29 dc29 pm29 cd29 ct29 : Value}
    (a29 : PySem.W.nsIn K mainGlobals "law" = some (some (.ref f29))) (l29 : K.lookup f29 = some ⟨oc29, od29, .func (PySem.W.fnOf "law" "law" (defArgs s_law) (defBody s_law) (defScope s_law) .none kV29 dc29 pm29 an29 cd29 ct29), sl29⟩) (c29 : PySem.W.codeIn K cd29 "law" = true) (k29 : PySem.W.keepIn K (.ref f29) = true)
    (z_abs : PySem.W.nsIn K mainGlobals "abs" = some none)
    (z_all : PySem.W.nsIn K mainGlobals "all" = some none)
    (z_any : PySem.W.nsIn K mainGlobals "any" = some none)
    (z_bool : PySem.W.nsIn K mainGlobals "bool" = some none)
    (z_enumerate : PySem.W.nsIn K mainGlobals "enumerate" = some none)
    (z_int : PySem.W.nsIn K mainGlobals "int" = some none)
    (z_isinstance : PySem.W.nsIn K mainGlobals "isinstance" = some none)
    (z_len : PySem.W.nsIn K mainGlobals "len" = some none)
    (z_list : PySem.W.nsIn K mainGlobals "list" = some none)
    (z_min : PySem.W.nsIn K mainGlobals "min" = some none)
    (z_range : PySem.W.nsIn K mainGlobals "range" = some none)
    (z_sorted : PySem.W.nsIn K mainGlobals "sorted" = some none)
    (z_str : PySem.W.nsIn K mainGlobals "str" = some none)
    (z_sum : PySem.W.nsIn K mainGlobals "sum" = some none)
    (z_tuple : PySem.W.nsIn K mainGlobals "tuple" = some none)
    {t_MOST : Tok} (y_MOST : PySem.W.nsIn K mainGlobals "MOST" = some (some (.int 200 t_MOST)))
    {cAnswer : Addr} (am_Answer : PySem.W.nsIn K mainGlobals "Answer" = some (some (.ref cAnswer)))
    {cKnown : Addr} (am_Known : PySem.W.nsIn K mainGlobals "Known" = some (some (.ref cKnown)))
    {cUnknown : Addr} (am_Unknown : PySem.W.nsIn K mainGlobals "Unknown" = some (some (.ref cUnknown)))
    (pg_Known : PySem.W.plainGet K cKnown Str.empty = true)
    (hd_Known : PySem.W.hasDictIn K cKnown = true)
    (po_Known : PySem.W.plainOver K cKnown = true)
    (sa_Known : PySem.W.findIn K (.ref cKnown) "__setattr__" = some (some (.builtin "object.__setattr__")))
    (na_Known : PySem.W.findIn K (.ref cKnown) "people" = some none)
    (ha_Known : PySem.W.findIn K (.ref cKnown) "__class__" = some (some (.builtin "object.__class__")))
    (ho_Known : PySem.W.mroIn K cKnown (.type "object") = some true)
    (mk_Known : PySem.W.makesIn K cKnown = true)
    (kc_Known : PySem.W.keepIn K (.ref cKnown) = true)
    {f_Known___init__ : Addr} {od_Known___init__ an_Known___init__ : Option Addr} {sl_Known___init__ : Array (Option Value)} {oc_Known___init__ kV_Known___init__ dc_Known___init__ pm_Known___init__ cd_Known___init__ ct_Known___init__ : Value}
    (a_Known___init__ : PySem.W.findIn K (.ref cKnown) "__init__" = some (some (.ref f_Known___init__))) (i_Known___init__ : PySem.W.isFn K (.ref f_Known___init__) = true) (l_Known___init__ : K.lookup f_Known___init__ = some ⟨oc_Known___init__, od_Known___init__, .func (PySem.W.fnOf "__init__" "Known.__init__" (defArgs s_Known___init__) (defBody s_Known___init__) (defScope s_Known___init__) .none kV_Known___init__ dc_Known___init__ pm_Known___init__ an_Known___init__ cd_Known___init__ ct_Known___init__), sl_Known___init__⟩) (e_Known___init__ : PySem.W.codeIn K cd_Known___init__ "Known.__init__" = true) (k_Known___init__ : PySem.W.keepIn K (.ref f_Known___init__) = true)
    {f_Known_shows : Addr} {od_Known_shows an_Known_shows : Option Addr} {sl_Known_shows : Array (Option Value)} {oc_Known_shows kV_Known_shows dc_Known_shows pm_Known_shows cd_Known_shows ct_Known_shows : Value}
    (a_Known_shows : PySem.W.findIn K (.ref cKnown) "shows" = some (some (.ref f_Known_shows))) (i_Known_shows : PySem.W.isFn K (.ref f_Known_shows) = true) (l_Known_shows : K.lookup f_Known_shows = some ⟨oc_Known_shows, od_Known_shows, .func (PySem.W.fnOf "shows" "Known.shows" (defArgs s_Known_shows) (defBody s_Known_shows) (defScope s_Known_shows) .none kV_Known_shows dc_Known_shows pm_Known_shows an_Known_shows cd_Known_shows ct_Known_shows), sl_Known_shows⟩) (e_Known_shows : PySem.W.codeIn K cd_Known_shows "Known.shows" = true) (k_Known_shows : PySem.W.keepIn K (.ref f_Known_shows) = true)
    (pg_Unknown : PySem.W.plainGet K cUnknown Str.empty = true)
    (hd_Unknown : PySem.W.hasDictIn K cUnknown = true)
    (po_Unknown : PySem.W.plainOver K cUnknown = true)
    (sa_Unknown : PySem.W.findIn K (.ref cUnknown) "__setattr__" = some (some (.builtin "object.__setattr__")))
    (na_Unknown : PySem.W.findIn K (.ref cUnknown) "people" = some none)
    (ha_Unknown : PySem.W.findIn K (.ref cUnknown) "__class__" = some (some (.builtin "object.__class__")))
    (ho_Unknown : PySem.W.mroIn K cUnknown (.type "object") = some true)
    (mk_Unknown : PySem.W.makesIn K cUnknown = true)
    (kc_Unknown : PySem.W.keepIn K (.ref cUnknown) = true)
    {f_Unknown___init__ : Addr} {od_Unknown___init__ an_Unknown___init__ : Option Addr} {sl_Unknown___init__ : Array (Option Value)} {oc_Unknown___init__ kV_Unknown___init__ dc_Unknown___init__ pm_Unknown___init__ cd_Unknown___init__ ct_Unknown___init__ : Value}
    (a_Unknown___init__ : PySem.W.findIn K (.ref cUnknown) "__init__" = some (some (.ref f_Unknown___init__))) (i_Unknown___init__ : PySem.W.isFn K (.ref f_Unknown___init__) = true) (l_Unknown___init__ : K.lookup f_Unknown___init__ = some ⟨oc_Unknown___init__, od_Unknown___init__, .func (PySem.W.fnOf "__init__" "Unknown.__init__" (defArgs s_Unknown___init__) (defBody s_Unknown___init__) (defScope s_Unknown___init__) .none kV_Unknown___init__ dc_Unknown___init__ pm_Unknown___init__ an_Unknown___init__ cd_Unknown___init__ ct_Unknown___init__), sl_Unknown___init__⟩) (e_Unknown___init__ : PySem.W.codeIn K cd_Unknown___init__ "Unknown.__init__" = true) (k_Unknown___init__ : PySem.W.keepIn K (.ref f_Unknown___init__) = true)
    {f_Unknown_shows : Addr} {od_Unknown_shows an_Unknown_shows : Option Addr} {sl_Unknown_shows : Array (Option Value)} {oc_Unknown_shows kV_Unknown_shows dc_Unknown_shows pm_Unknown_shows cd_Unknown_shows ct_Unknown_shows : Value}
    (a_Unknown_shows : PySem.W.findIn K (.ref cUnknown) "shows" = some (some (.ref f_Unknown_shows))) (i_Unknown_shows : PySem.W.isFn K (.ref f_Unknown_shows) = true) (l_Unknown_shows : K.lookup f_Unknown_shows = some ⟨oc_Unknown_shows, od_Unknown_shows, .func (PySem.W.fnOf "shows" "Unknown.shows" (defArgs s_Unknown_shows) (defBody s_Unknown_shows) (defScope s_Unknown_shows) .none kV_Unknown_shows dc_Unknown_shows pm_Unknown_shows an_Unknown_shows cd_Unknown_shows ct_Unknown_shows), sl_Unknown_shows⟩) (e_Unknown_shows : PySem.W.codeIn K cd_Unknown_shows "Unknown.shows" = true) (k_Unknown_shows : PySem.W.keepIn K (.ref f_Unknown_shows) = true)
    (hn_ : PySem.W.specialIn K (.builtin "object.__class__") "__get__" = some (some (.builtin "getset_descriptor.__get__"))) (htk_ : PySem.W.takesIn K (.builtin "object.__class__") = some true)
    (kt0 : PySem.W.subIn K (.ref cKnown) (.ref cAnswer) = some true)
    (kt1 : PySem.W.subIn K (.ref cKnown) (.ref cKnown) = some true)
    (kt2 : PySem.W.subIn K (.ref cKnown) (.ref cUnknown) = some false)
    (kt3 : PySem.W.subIn K (.ref cUnknown) (.ref cAnswer) = some true)
    (kt4 : PySem.W.subIn K (.ref cUnknown) (.ref cKnown) = some false)
    (kt5 : PySem.W.subIn K (.ref cUnknown) (.ref cUnknown) = some true)
    (ic_Answer : PySem.W.isClsIn K cAnswer = true) (tc_Answer : PySem.W.typeIn K (.ref cAnswer) = some (.type "type"))
    (ic_Known : PySem.W.isClsIn K cKnown = true) (tc_Known : PySem.W.typeIn K (.ref cKnown) = some (.type "type"))
    (ic_Unknown : PySem.W.isClsIn K cUnknown = true) (tc_Unknown : PySem.W.typeIn K (.ref cUnknown) = some (.type "type"))
    {cWebError : Addr} (em_WebError : PySem.W.nsIn K mainGlobals "WebError" = some (some (.ref cWebError))) (eb_WebError : PySem.W.subIn K (.ref cWebError) (.type "BaseException") = some true) (et_WebError : PySem.W.typeIn K (.ref cWebError) = some (.type "type")) (ei_WebError : PySem.W.isClsIn K cWebError = true)
    {cTooFew : Addr} (em_TooFew : PySem.W.nsIn K mainGlobals "TooFew" = some (some (.ref cTooFew))) (eb_TooFew : PySem.W.subIn K (.ref cTooFew) (.type "BaseException") = some true) (et_TooFew : PySem.W.typeIn K (.ref cTooFew) = some (.type "type")) (ei_TooFew : PySem.W.isClsIn K cTooFew = true)
    (xx_TooFew : PySem.W.excIn K cTooFew [.type "ValueError", .type "Exception", .type "BaseException", .type "object"] "ValueError.__new__" = true) (ek_TooFew : PySem.W.keepIn K (.ref cTooFew) = true)
    (eg_TooFew : PySem.W.findIn K (.ref cTooFew) "__getattribute__" = some (some (.builtin "BaseException.__getattribute__"))) (eh_TooFew : PySem.W.findIn K (.ref cTooFew) "__getattr__" = some none) (ed_TooFew : PySem.W.hasDictIn K cTooFew = true) (ea_TooFew : PySem.W.findIn K (.ref cTooFew) "__class__" = some (some (.builtin "object.__class__"))) (eo_TooFew : PySem.W.mroIn K cTooFew (.type "object") = some true)
    (es_TooFew_WebError : PySem.W.subIn K (.ref cTooFew) (.ref cWebError) = some true)
    (es_TooFew_TooFew : PySem.W.subIn K (.ref cTooFew) (.ref cTooFew) = some true) :
    ∃ fd : FuncData, (∀ (s : Shared) (v : Value), BindsTo s fd ⟨[v], []⟩ [("_law_script", v)]) ∧ ∀ base : Heap, K.In base → base.Ns mainGlobals mg → FnOk P w K mg base CX0 7 fa fd ["_law_script"] (sp_law K) := by
  have e := hfa.symm.trans (PySem.W.mg_of X G a29)
  cases e
  have T : Txt K mg cAnswer cKnown cUnknown cWebError cTooFew := ⟨PySem.W.mg_none_of X G z_abs, PySem.W.mg_none_of X G z_all, PySem.W.mg_none_of X G z_any, PySem.W.mg_none_of X G z_bool, PySem.W.mg_none_of X G z_enumerate, PySem.W.mg_none_of X G z_int, PySem.W.mg_none_of X G z_isinstance, PySem.W.mg_none_of X G z_len, PySem.W.mg_none_of X G z_list, PySem.W.mg_none_of X G z_min, PySem.W.mg_none_of X G z_range, PySem.W.mg_none_of X G z_sorted, PySem.W.mg_none_of X G z_str, PySem.W.mg_none_of X G z_sum, PySem.W.mg_none_of X G z_tuple, ⟨_, PySem.W.mg_of X G y_MOST⟩, PySem.W.mg_of X G am_Answer, PySem.W.mg_of X G am_Known, PySem.W.mg_of X G am_Unknown, ⟨⟨pg_Known, hd_Known, po_Known, sa_Known⟩, na_Known, ha_Known, hn_, htk_, ho_Known⟩, ⟨⟨pg_Unknown, hd_Unknown, po_Unknown, sa_Unknown⟩, na_Unknown, ha_Unknown, hn_, htk_, ho_Unknown⟩, ⟨kit_own ic_Answer tc_Answer kt0, kit_own ic_Known tc_Known kt1, kit_other ic_Unknown tc_Unknown kt2 kt5, kit_own ic_Answer tc_Answer kt3, kit_other ic_Known tc_Known kt4 kt1, kit_own ic_Unknown tc_Unknown kt5⟩, PySem.W.mg_of X G em_WebError, PySem.W.mg_of X G em_TooFew, ⟨xx_TooFew, ek_TooFew, eb_TooFew, et_TooFew, ei_TooFew, ⟨eg_TooFew, eh_TooFew, eb_TooFew, ed_TooFew, ea_TooFew, hn_, htk_, eo_TooFew⟩⟩, exm_own eb_WebError ei_WebError et_WebError es_TooFew_WebError, kit_own ei_TooFew et_TooFew es_TooFew_TooFew⟩
  refine ⟨PySem.W.fnOf "law" "law" (defArgs s_law) (defBody s_law) (defScope s_law) .none kV29 dc29 pm29 an29 cd29 ct29, fun s v => .of_eq rfl, fun base _ _ => ?_⟩
  have D0 : At K mg "is_number" s_is_number ["thing"] := ⟨f0, _, fun_mk (st := s_is_number) l0 c0 k0, PySem.W.mg_of X G a0, (fun_mk (st := s_is_number) l0 c0 k0).binds (ps := ["thing"]) fun _ _ _ _ _ _ us hl => match us, hl with | [_], _ => rfl⟩
  have H_is_number := ok_is_number (P := P) (w := w) (base := base) T D0 
  have D1 : At K mg "asked_web" s_asked_web ["web"] := ⟨f1, _, fun_mk (st := s_asked_web) l1 c1 k1, PySem.W.mg_of X G a1, (fun_mk (st := s_asked_web) l1 c1 k1).binds (ps := ["web"]) fun _ _ _ _ _ _ us hl => match us, hl with | [_], _ => rfl⟩
  have H_asked_web := ok_asked_web (P := P) (w := w) (base := base) T D1 
  have D2 : At K mg "ties" s_ties ["web"] := ⟨f2, _, fun_mk (st := s_ties) l2 c2 k2, PySem.W.mg_of X G a2, (fun_mk (st := s_ties) l2 c2 k2).binds (ps := ["web"]) fun _ _ _ _ _ _ us hl => match us, hl with | [_], _ => rfl⟩
  have H_ties := ok_ties (P := P) (w := w) (base := base) T D2 H_asked_web
  have D3 : At K mg "turned_of" s_turned_of ["web"] := ⟨f3, _, fun_mk (st := s_turned_of) l3 c3 k3, PySem.W.mg_of X G a3, (fun_mk (st := s_turned_of) l3 c3 k3).binds (ps := ["web"]) fun _ _ _ _ _ _ us hl => match us, hl with | [_], _ => rfl⟩
  have H_turned_of := ok_turned_of (P := P) (w := w) (base := base) T D3 
  have D4 : At K mg "turned" s_turned ["web"] := ⟨f4, _, fun_mk (st := s_turned) l4 c4 k4, PySem.W.mg_of X G a4, (fun_mk (st := s_turned) l4 c4 k4).binds (ps := ["web"]) fun _ _ _ _ _ _ us hl => match us, hl with | [_], _ => rfl⟩
  have H_turned := ok_turned (P := P) (w := w) (base := base) T D4 H_asked_web H_turned_of
  have D5 : At K mg "all_as" s_all_as ["web", "people", "sign"] := ⟨f5, _, fun_mk (st := s_all_as) l5 c5 k5, PySem.W.mg_of X G a5, (fun_mk (st := s_all_as) l5 c5 k5).binds (ps := ["web", "people", "sign"]) fun _ _ _ _ _ _ us hl => match us, hl with | [_, _, _], _ => rfl⟩
  have H_all_as := ok_all_as (P := P) (w := w) (base := base) T D5 
  have D6 : At K mg "are_people" s_are_people ["people", "web"] := ⟨f6, _, fun_mk (st := s_are_people) l6 c6 k6, PySem.W.mg_of X G a6, (fun_mk (st := s_are_people) l6 c6 k6).binds (ps := ["people", "web"]) fun _ _ _ _ _ _ us hl => match us, hl with | [_, _], _ => rfl⟩
  have H_are_people := ok_are_people (P := P) (w := w) (base := base) T D6 
  have D_Known___init__ : AtMk K mg "Known" cKnown "Known.__init__" s_Known___init__ ["self", "people"] := ⟨f_Known___init__, _, fun_mk (st := s_Known___init__) l_Known___init__ e_Known___init__ k_Known___init__, PySem.W.mg_of X G am_Known, ⟨mk_Known, a_Known___init__, i_Known___init__, kc_Known⟩, (fun_mk (st := s_Known___init__) l_Known___init__ e_Known___init__ k_Known___init__).binds (ps := ["self", "people"]) fun _ _ _ _ _ _ us hl => match us, hl with | [_, _], _ => rfl⟩
  have H_Known___init__ := ok_Known___init__ (P := P) (w := w) (base := base) T D_Known___init__ 
  have D_Known_shows : AtM K cKnown "shows" "Known.shows" s_Known_shows ["self", "web"] := ⟨f_Known_shows, _, fun_mk (st := s_Known_shows) l_Known_shows e_Known_shows k_Known_shows, ⟨pg_Known, hd_Known, po_Known, sa_Known⟩, ⟨a_Known_shows, i_Known_shows, k_Known_shows⟩, (fun_mk (st := s_Known_shows) l_Known_shows e_Known_shows k_Known_shows).binds (ps := ["self", "web"]) fun _ _ _ _ _ _ us hl => match us, hl with | [_, _], _ => rfl⟩
  have H_Known_shows := ok_Known_shows (P := P) (w := w) (base := base) T D_Known_shows H_are_people H_all_as
  have D_Unknown___init__ : AtMk K mg "Unknown" cUnknown "Unknown.__init__" s_Unknown___init__ ["self", "people"] := ⟨f_Unknown___init__, _, fun_mk (st := s_Unknown___init__) l_Unknown___init__ e_Unknown___init__ k_Unknown___init__, PySem.W.mg_of X G am_Unknown, ⟨mk_Unknown, a_Unknown___init__, i_Unknown___init__, kc_Unknown⟩, (fun_mk (st := s_Unknown___init__) l_Unknown___init__ e_Unknown___init__ k_Unknown___init__).binds (ps := ["self", "people"]) fun _ _ _ _ _ _ us hl => match us, hl with | [_, _], _ => rfl⟩
  have H_Unknown___init__ := ok_Unknown___init__ (P := P) (w := w) (base := base) T D_Unknown___init__ 
  have D_Unknown_shows : AtM K cUnknown "shows" "Unknown.shows" s_Unknown_shows ["self", "web"] := ⟨f_Unknown_shows, _, fun_mk (st := s_Unknown_shows) l_Unknown_shows e_Unknown_shows k_Unknown_shows, ⟨pg_Unknown, hd_Unknown, po_Unknown, sa_Unknown⟩, ⟨a_Unknown_shows, i_Unknown_shows, k_Unknown_shows⟩, (fun_mk (st := s_Unknown_shows) l_Unknown_shows e_Unknown_shows k_Unknown_shows).binds (ps := ["self", "web"]) fun _ _ _ _ _ _ us hl => match us, hl with | [_, _], _ => rfl⟩
  have H_Unknown_shows := ok_Unknown_shows (P := P) (w := w) (base := base) T D_Unknown_shows H_are_people H_all_as
  have D7 : At K mg "alike" s_alike ["web"] := ⟨f7, _, fun_mk (st := s_alike) l7 c7 k7, PySem.W.mg_of X G a7, (fun_mk (st := s_alike) l7 c7 k7).binds (ps := ["web"]) fun _ _ _ _ _ _ us hl => match us, hl with | [_], _ => rfl⟩
  have H_alike := ok_alike (P := P) (w := w) (base := base) T D7 H_asked_web
  have D8 : At K mg "three" s_three ["web"] := ⟨f8, _, fun_mk (st := s_three) l8 c8 k8, PySem.W.mg_of X G a8, (fun_mk (st := s_three) l8 c8 k8).binds (ps := ["web"]) fun _ _ _ _ _ _ us hl => match us, hl with | [_], _ => rfl⟩
  have H_three := ok_three (P := P) (w := w) (base := base) T D8 H_asked_web H_all_as H_Known___init__ H_Unknown___init__
  have D9 : At K mg "asked_size" s_asked_size ["size"] := ⟨f9, _, fun_mk (st := s_asked_size) l9 c9 k9, PySem.W.mg_of X G a9, (fun_mk (st := s_asked_size) l9 c9 k9).binds (ps := ["size"]) fun _ _ _ _ _ _ us hl => match us, hl with | [_], _ => rfl⟩
  have H_asked_size := ok_asked_size (P := P) (w := w) (base := base) T D9 H_is_number
  have D10 : At K mg "fewest" s_fewest ["size"] := ⟨f10, _, fun_mk (st := s_fewest) l10 c10 k10, PySem.W.mg_of X G a10, (fun_mk (st := s_fewest) l10 c10 k10).binds (ps := ["size"]) fun _ _ _ _ _ _ us hl => match us, hl with | [_], _ => rfl⟩
  have H_fewest := ok_fewest (P := P) (w := w) (base := base) T D10 H_asked_size
  have D11 : At K mg "web_of" s_web_of ["size"] := ⟨f11, _, fun_mk (st := s_web_of) l11 c11 k11, PySem.W.mg_of X G a11, (fun_mk (st := s_web_of) l11 c11 k11).binds (ps := ["size"]) fun _ _ _ _ _ _ us hl => match us, hl with | [_], _ => rfl⟩
  have H_web_of := ok_web_of (P := P) (w := w) (base := base) T D11 H_asked_size
  have D12 : At K mg "asked_group" s_asked_group ["size"] := ⟨f12, _, fun_mk (st := s_asked_group) l12 c12 k12, PySem.W.mg_of X G a12, (fun_mk (st := s_asked_group) l12 c12 k12).binds (ps := ["size"]) fun _ _ _ _ _ _ us hl => match us, hl with | [_], _ => rfl⟩
  have H_asked_group := ok_asked_group (P := P) (w := w) (base := base) T D12 H_is_number
  have D13 : At K mg "sure_of" s_sure_of ["known", "unknown"] := ⟨f13, _, fun_mk (st := s_sure_of) l13 c13 k13, PySem.W.mg_of X G a13, (fun_mk (st := s_sure_of) l13 c13 k13).binds (ps := ["known", "unknown"]) fun _ _ _ _ _ _ us hl => match us, hl with | [_, _], _ => rfl⟩
  have H_sure_of := ok_sure_of (P := P) (w := w) (base := base) T D13 
  have D14 : At K mg "sure" s_sure ["known", "unknown"] := ⟨f14, _, fun_mk (st := s_sure) l14 c14 k14, PySem.W.mg_of X G a14, (fun_mk (st := s_sure) l14 c14 k14).binds (ps := ["known", "unknown"]) fun _ _ _ _ _ _ us hl => match us, hl with | [_, _], _ => rfl⟩
  have H_sure := ok_sure (P := P) (w := w) (base := base) T D14 H_asked_group H_sure_of
  have D15 : At K mg "found" s_found ["web", "known", "unknown"] := ⟨f15, _, fun_mk (st := s_found) l15 c15 k15, PySem.W.mg_of X G a15, (fun_mk (st := s_found) l15 c15 k15).binds (ps := ["web", "known", "unknown"]) fun _ _ _ _ _ _ us hl => match us, hl with | [_, _, _], _ => rfl⟩
  have H_found := ok_found (P := P) (w := w) (base := base) T D15 H_asked_web H_asked_group H_sure_of H_Known___init__ H_Unknown___init__
  have D16 : At K mg "common" s_common ["one", "other"] := ⟨f16, _, fun_mk (st := s_common) l16 c16 k16, PySem.W.mg_of X G a16, (fun_mk (st := s_common) l16 c16 k16).binds (ps := ["one", "other"]) fun _ _ _ _ _ _ us hl => match us, hl with | [_, _], _ => rfl⟩
  have H_common := ok_common (P := P) (w := w) (base := base) T D16 
  have D17 : At K mg "promised_by" s_promised_by ["web"] := ⟨f17, _, fun_mk (st := s_promised_by) l17 c17 k17, PySem.W.mg_of X G a17, (fun_mk (st := s_promised_by) l17 c17 k17).binds (ps := ["web"]) fun _ _ _ _ _ _ us hl => match us, hl with | [_], _ => rfl⟩
  have H_promised_by := ok_promised_by (P := P) (w := w) (base := base) T D17 H_common
  have D18 : At K mg "promised" s_promised ["web"] := ⟨f18, _, fun_mk (st := s_promised) l18 c18 k18, PySem.W.mg_of X G a18, (fun_mk (st := s_promised) l18 c18 k18).binds (ps := ["web"]) fun _ _ _ _ _ _ us hl => match us, hl with | [_], _ => rfl⟩
  have H_promised := ok_promised (P := P) (w := w) (base := base) T D18 H_asked_web H_promised_by
  have D19 : At K mg "strangers_of" s_strangers_of ["web"] := ⟨f19, _, fun_mk (st := s_strangers_of) l19 c19 k19, PySem.W.mg_of X G a19, (fun_mk (st := s_strangers_of) l19 c19 k19).binds (ps := ["web"]) fun _ _ _ _ _ _ us hl => match us, hl with | [_], _ => rfl⟩
  have H_strangers_of := ok_strangers_of (P := P) (w := w) (base := base) T D19 
  have D20 : At K mg "strangers" s_strangers ["web"] := ⟨f20, _, fun_mk (st := s_strangers) l20 c20 k20, PySem.W.mg_of X G a20, (fun_mk (st := s_strangers) l20 c20 k20).binds (ps := ["web"]) fun _ _ _ _ _ _ us hl => match us, hl with | [_], _ => rfl⟩
  have H_strangers := ok_strangers (P := P) (w := w) (base := base) T D20 H_asked_web H_Unknown___init__ H_strangers_of
  have D21 : At K mg "friends" s_friends ["web"] := ⟨f21, _, fun_mk (st := s_friends) l21 c21 k21, PySem.W.mg_of X G a21, (fun_mk (st := s_friends) l21 c21 k21).binds (ps := ["web"]) fun _ _ _ _ _ _ us hl => match us, hl with | [_], _ => rfl⟩
  have H_friends := ok_friends (P := P) (w := w) (base := base) T D21 H_asked_web H_Known___init__ H_strangers_of H_turned_of
  have D22 : At K mg "_law_number" s_law_number ["_law_cell", "_law_at", "_law_whole"] := ⟨f22, _, fun_mk (st := s_law_number) l22 c22 k22, PySem.W.mg_of X G a22, (fun_mk (st := s_law_number) l22 c22 k22).binds (ps := ["_law_cell", "_law_at", "_law_whole"]) fun _ _ _ _ _ _ us hl => match us, hl with | [_, _, _], _ => rfl⟩
  have H_law_number := ok_law_number (P := P) (w := w) (base := base) T D22 
  have D23 : At K mg "_law_plain" s_law_plain ["_law_thing"] := ⟨f23, _, fun_mk (st := s_law_plain) l23 c23 k23, PySem.W.mg_of X G a23, (fun_mk (st := s_law_plain) l23 c23 k23).binds (ps := ["_law_thing"]) fun _ _ _ _ _ _ us hl => match us, hl with | [_], _ => rfl⟩
  have H_law_plain := ok_law_plain (P := P) (w := w) (base := base) T D23 
  have D24 : At K mg "_law_truths" s_law_truths ["_law_things"] := ⟨f24, _, fun_mk (st := s_law_truths) l24 c24 k24, PySem.W.mg_of X G a24, (fun_mk (st := s_law_truths) l24 c24 k24).binds (ps := ["_law_things"]) fun _ _ _ _ _ _ us hl => match us, hl with | [_], _ => rfl⟩
  have H_law_truths := ok_law_truths (P := P) (w := w) (base := base) T D24 
  have D25 : At K mg "_law_web_right" s_law_web_right ["_law_web"] := ⟨f25, _, fun_mk (st := s_law_web_right) l25 c25 k25, PySem.W.mg_of X G a25, (fun_mk (st := s_law_web_right) l25 c25 k25).binds (ps := ["_law_web"]) fun _ _ _ _ _ _ us hl => match us, hl with | [_], _ => rfl⟩
  have H_law_web_right := ok_law_web_right (P := P) (w := w) (base := base) T D25 H_friends H_strangers H_promised H_alike H_ties H_three H_Known_shows H_Unknown_shows H_found H_Known___init__ H_Unknown___init__ H_law_plain H_law_truths
  have D26 : At K mg "_law_are_too_few" s_law_are_too_few ["_law_web", "_law_known", "_law_unknown"] := ⟨f26, _, fun_mk (st := s_law_are_too_few) l26 c26 k26, PySem.W.mg_of X G a26, (fun_mk (st := s_law_are_too_few) l26 c26 k26).binds (ps := ["_law_web", "_law_known", "_law_unknown"]) fun _ _ _ _ _ _ us hl => match us, hl with | [_, _, _], _ => rfl⟩
  have H_law_are_too_few := ok_law_are_too_few (P := P) (w := w) (base := base) T D26 H_found
  have D27 : At K mg "_law_groups_promises" s_law_groups_promises [] := ⟨f27, _, fun_mk (st := s_law_groups_promises) l27 c27 k27, PySem.W.mg_of X G a27, (fun_mk (st := s_law_groups_promises) l27 c27 k27).binds (ps := []) fun _ _ _ _ _ _ us hl => match us, hl with | [], _ => rfl⟩
  have H_law_groups_promises := ok_law_groups_promises (P := P) (w := w) (base := base) T D27 H_sure H_found H_law_are_too_few H_promised H_friends H_strangers H_Known_shows H_Unknown_shows
  have D28 : At K mg "_law_promises_right" s_law_promises_right [] := ⟨f28, _, fun_mk (st := s_law_promises_right) l28 c28 k28, PySem.W.mg_of X G a28, (fun_mk (st := s_law_promises_right) l28 c28 k28).binds (ps := []) fun _ _ _ _ _ _ us hl => match us, hl with | [], _ => rfl⟩
  have H_law_promises_right := ok_law_promises_right (P := P) (w := w) (base := base) T D28 H_ties H_turned H_alike H_three H_fewest H_web_of H_Known_shows H_Unknown_shows H_Known___init__ H_Unknown___init__ H_law_groups_promises
  exact fn_law T (fun_mk (st := s_law) l29 c29 k29) H_law_promises_right H_law_number H_law_plain H_sure H_fewest H_web_of H_law_web_right
theorem walk {l : PySem.W.OpenLaw} {q : Program} {loose : List Str} {XP : (Str → Option Value) → Heap → Prop} {YP : World → Heap → Prop} {d : DefRec} {K : Params → PySem.W.Frag} (hn : l.most = some 63) (hdf : d.params.defaults = [])
    (hY : ∀ (w : World) (h : Heap), YP w h → (K w.params).In h)
    (F : ∀ (w : World) (mg : Str → Option Value) (fa : Addr) (h : Heap), (K w.params).In h → h.Ns mainGlobals mg → mg d.name = some (.ref fa) →
      ∃ fd : FuncData, (∀ (s : Shared) (u : Value), BindsTo s fd ⟨[u], []⟩ [("_law_script", u)]) ∧ ∀ base : Heap, (K w.params).In base → base.Ns mainGlobals mg → FnOk l.prog w (K w.params) mg base CX0 7 fa fd ["_law_script"] (sp_law (K w.params))) :
    PySem.W.WalkO q loose XP YP l.row.toRowW d [] (fun f vs => PySem.call f vs) :=
  L2.walk_ofB (n := 63) (k := 7) (x := "_law_script") (CX := fun _ => CX0) (sp := fun w => sp_law (K w.params)) hn (by decide) hdf ⟨rfl, by decide, by decide⟩ hY F
    (fun _ _ a ns hl hb _ hS => ⟨a, ns, rfl, hS, hl, fun z hz => Bt.of_bits (hb z hz), fun _ _ => rfl⟩) fun _ _ _ _ _ z => z
end AK
open PySem PySem.W PyProof.Rows
set_option maxRecDepth 100000 in
set_option maxHeartbeats 0 in
theorem PySem.Challenge.cw_allknown_k07_whole_numbers_holds : PySem.Challenge.rw_allknown_k07_whole_numbers.Holds := by
  w_on; o_law; k_head; (case hw => w_witness2)
  k_fill
  refine AK.walk (l := PySem.Challenge.rw_allknown_k07_whole_numbers) rfl rfl (fun w h Y => PySem.W.kIn_of Y) ?F
  case F =>
    intro w mg fa h KX G hmg
    refine' AK.all_mk KX G hmg ?a0 ?l0 ?c0 ?k0 ?a1 ?l1 ?c1 ?k1 ?a2 ?l2 ?c2 ?k2 ?a3 ?l3 ?c3 ?k3 ?a4 ?l4 ?c4 ?k4 ?a5 ?l5 ?c5 ?k5 ?a6 ?l6 ?c6 ?k6 ?a7 ?l7 ?c7 ?k7 ?a8 ?l8 ?c8 ?k8 ?a9 ?l9 ?c9 ?k9 ?a10 ?l10 ?c10 ?k10 ?a11 ?l11 ?c11 ?k11 ?a12 ?l12 ?c12 ?k12 ?a13 ?l13 ?c13 ?k13 ?a14 ?l14 ?c14 ?k14 ?a15 ?l15 ?c15 ?k15 ?a16 ?l16 ?c16 ?k16 ?a17 ?l17 ?c17 ?k17 ?a18 ?l18 ?c18 ?k18 ?a19 ?l19 ?c19 ?k19 ?a20 ?l20 ?c20 ?k20 ?a21 ?l21 ?c21 ?k21 ?a22 ?l22 ?c22 ?k22 ?a23 ?l23 ?c23 ?k23 ?a24 ?l24 ?c24 ?k24 ?a25 ?l25 ?c25 ?k25 ?a26 ?l26 ?c26 ?k26 ?a27 ?l27 ?c27 ?k27 ?a28 ?l28 ?c28 ?k28 ?a29 ?l29 ?c29 ?k29 ?z_abs ?z_all ?z_any ?z_bool ?z_enumerate ?z_int ?z_isinstance ?z_len ?z_list ?z_min ?z_range ?z_sorted ?z_str ?z_sum ?z_tuple ?y_MOST ?am_Answer ?am_Known ?am_Unknown ?pg_Known ?hd_Known ?po_Known ?sa_Known ?na_Known ?ha_Known ?ho_Known ?mk_Known ?kc_Known ?a_Known___init__ ?i_Known___init__ ?l_Known___init__ ?e_Known___init__ ?k_Known___init__ ?a_Known_shows ?i_Known_shows ?l_Known_shows ?e_Known_shows ?k_Known_shows ?pg_Unknown ?hd_Unknown ?po_Unknown ?sa_Unknown ?na_Unknown ?ha_Unknown ?ho_Unknown ?mk_Unknown ?kc_Unknown ?a_Unknown___init__ ?i_Unknown___init__ ?l_Unknown___init__ ?e_Unknown___init__ ?k_Unknown___init__ ?a_Unknown_shows ?i_Unknown_shows ?l_Unknown_shows ?e_Unknown_shows ?k_Unknown_shows ?hn_ ?htk_ ?kt0 ?kt1 ?kt2 ?kt3 ?kt4 ?kt5 ?ic_Answer ?tc_Answer ?ic_Known ?tc_Known ?ic_Unknown ?tc_Unknown ?em_WebError ?eb_WebError ?et_WebError ?ei_WebError ?em_TooFew ?eb_TooFew ?et_TooFew ?ei_TooFew ?xx_TooFew ?ek_TooFew ?eg_TooFew ?eh_TooFew ?ed_TooFew ?ea_TooFew ?eo_TooFew ?es_TooFew_WebError ?es_TooFew_TooFew
    (case a0 => k_is)
    (case l0 => k_is)
    (case c0 => k_is)
    (case k0 => k_is)
    (case a1 => k_is)
    (case l1 => k_is)
    (case c1 => k_is)
    (case k1 => k_is)
    (case a2 => k_is)
    (case l2 => k_is)
    (case c2 => k_is)
    (case k2 => k_is)
    (case a3 => k_is)
    (case l3 => k_is)
    (case c3 => k_is)
    (case k3 => k_is)
    (case a4 => k_is)
    (case l4 => k_is)
    (case c4 => k_is)
    (case k4 => k_is)
    (case a5 => k_is)
    (case l5 => k_is)
    (case c5 => k_is)
    (case k5 => k_is)
    (case a6 => k_is)
    (case l6 => k_is)
    (case c6 => k_is)
    (case k6 => k_is)
    (case a7 => k_is)
    (case l7 => k_is)
    (case c7 => k_is)
    (case k7 => k_is)
    (case a8 => k_is)
    (case l8 => k_is)
    (case c8 => k_is)
    (case k8 => k_is)
    (case a9 => k_is)
    (case l9 => k_is)
    (case c9 => k_is)
    (case k9 => k_is)
    (case a10 => k_is)
    (case l10 => k_is)
    (case c10 => k_is)
    (case k10 => k_is)
    (case a11 => k_is)
    (case l11 => k_is)
    (case c11 => k_is)
    (case k11 => k_is)
    (case a12 => k_is)
    (case l12 => k_is)
    (case c12 => k_is)
    (case k12 => k_is)
    (case a13 => k_is)
    (case l13 => k_is)
    (case c13 => k_is)
    (case k13 => k_is)
    (case a14 => k_is)
    (case l14 => k_is)
    (case c14 => k_is)
    (case k14 => k_is)
    (case a15 => k_is)
    (case l15 => k_is)
    (case c15 => k_is)
    (case k15 => k_is)
    (case a16 => k_is)
    (case l16 => k_is)
    (case c16 => k_is)
    (case k16 => k_is)
    (case a17 => k_is)
    (case l17 => k_is)
    (case c17 => k_is)
    (case k17 => k_is)
    (case a18 => k_is)
    (case l18 => k_is)
    (case c18 => k_is)
    (case k18 => k_is)
    (case a19 => k_is)
    (case l19 => k_is)
    (case c19 => k_is)
    (case k19 => k_is)
    (case a20 => k_is)
    (case l20 => k_is)
    (case c20 => k_is)
    (case k20 => k_is)
    (case a21 => k_is)
    (case l21 => k_is)
    (case c21 => k_is)
    (case k21 => k_is)
    (case a22 => k_is)
    (case l22 => k_is)
    (case c22 => k_is)
    (case k22 => k_is)
    (case a23 => k_is)
    (case l23 => k_is)
    (case c23 => k_is)
    (case k23 => k_is)
    (case a24 => k_is)
    (case l24 => k_is)
    (case c24 => k_is)
    (case k24 => k_is)
    (case a25 => k_is)
    (case l25 => k_is)
    (case c25 => k_is)
    (case k25 => k_is)
    (case a26 => k_is)
    (case l26 => k_is)
    (case c26 => k_is)
    (case k26 => k_is)
    (case a27 => k_is)
    (case l27 => k_is)
    (case c27 => k_is)
    (case k27 => k_is)
    (case a28 => k_is)
    (case l28 => k_is)
    (case c28 => k_is)
    (case k28 => k_is)
    (case a29 => k_is)
    (case l29 => k_is)
    (case c29 => k_is)
    (case k29 => k_is)
    (case z_abs => k_is)
    (case z_all => k_is)
    (case z_any => k_is)
    (case z_bool => k_is)
    (case z_enumerate => k_is)
    (case z_int => k_is)
    (case z_isinstance => k_is)
    (case z_len => k_is)
    (case z_list => k_is)
    (case z_min => k_is)
    (case z_range => k_is)
    (case z_sorted => k_is)
    (case z_str => k_is)
    (case z_sum => k_is)
    (case z_tuple => k_is)
    (case y_MOST => k_is)
    (case am_Answer => k_is)
    (case am_Known => k_is)
    (case am_Unknown => k_is)
    (case pg_Known => k_is)
    (case hd_Known => k_is)
    (case po_Known => k_is)
    (case sa_Known => k_is)
    (case na_Known => k_is)
    (case ha_Known => k_is)
    (case ho_Known => k_is)
    (case mk_Known => k_is)
    (case kc_Known => k_is)
    (case a_Known___init__ => k_is)
    (case i_Known___init__ => k_is)
    (case l_Known___init__ => k_is)
    (case e_Known___init__ => k_is)
    (case k_Known___init__ => k_is)
    (case a_Known_shows => k_is)
    (case i_Known_shows => k_is)
    (case l_Known_shows => k_is)
    (case e_Known_shows => k_is)
    (case k_Known_shows => k_is)
    (case pg_Unknown => k_is)
    (case hd_Unknown => k_is)
    (case po_Unknown => k_is)
    (case sa_Unknown => k_is)
    (case na_Unknown => k_is)
    (case ha_Unknown => k_is)
    (case ho_Unknown => k_is)
    (case mk_Unknown => k_is)
    (case kc_Unknown => k_is)
    (case a_Unknown___init__ => k_is)
    (case i_Unknown___init__ => k_is)
    (case l_Unknown___init__ => k_is)
    (case e_Unknown___init__ => k_is)
    (case k_Unknown___init__ => k_is)
    (case a_Unknown_shows => k_is)
    (case i_Unknown_shows => k_is)
    (case l_Unknown_shows => k_is)
    (case e_Unknown_shows => k_is)
    (case k_Unknown_shows => k_is)
    (case hn_ => k_is)
    (case htk_ => k_is)
    (case kt0 => k_is)
    (case kt1 => k_is)
    (case kt2 => k_is)
    (case kt3 => k_is)
    (case kt4 => k_is)
    (case kt5 => k_is)
    (case ic_Answer => k_is)
    (case tc_Answer => k_is)
    (case ic_Known => k_is)
    (case tc_Known => k_is)
    (case ic_Unknown => k_is)
    (case tc_Unknown => k_is)
    (case em_WebError => k_is)
    (case eb_WebError => k_is)
    (case et_WebError => k_is)
    (case ei_WebError => k_is)
    (case em_TooFew => k_is)
    (case eb_TooFew => k_is)
    (case et_TooFew => k_is)
    (case ei_TooFew => k_is)
    (case xx_TooFew => k_exc)
    (case ek_TooFew => k_is)
    (case eg_TooFew => k_is)
    (case eh_TooFew => k_is)
    (case ed_TooFew => k_is)
    (case ea_TooFew => k_is)
    (case eo_TooFew => k_is)
    (case es_TooFew_WebError => k_is)
    (case es_TooFew_TooFew => k_is)
