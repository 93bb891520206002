import PyProof.Rows.All
import Wide.All
import OpenK.AllK
import Wide.FinOn
import HandS.ForMost
import HandS.Evl
import HandS.IsInst
import HandS.StrMore
import HandS.SortInts
import HandS.Walk
import HandS.EndBits
import KE.KEqDeep
import KE.Datum
import PySem.Challenge.RW_allknown_k02_whole_fewest
set_option Elab.async false
set_option linter.all false
set_option maxRecDepth 100000
set_option maxHeartbeats 4000000
namespace L2
open PySem PySem.Spec PyProof.Rows
/-- a text's signs, each in a new pair with its place -/
def Ites (x : Str) : It :=
  ⟨fun i _ => i < x.cps.size, fun i H v H' => ∃ T c, v = .ref T ∧ H T = none ∧ H' = upd H T (.tup [.int (i : Nat), .str ⟨#[c]⟩]) ∧ x.cps[i]? = some c, fun i _ => i = x.cps.size⟩
theorem draws_str {P : Program} {w : World} {A : Around} (hh : A.handled = none) (it : Addr) (x : Str) (t : Tok) (ty : String) (hty : ty = "str_ascii_iterator" ∨ ty = "str_iterator") :
    Draws P w A.in1 it [it] x.cps.size (fun i v => ∃ c u, x.cps[i]? = some c ∧ v = .str ⟨#[c]⟩ u) (fun i h => h.IsStrIter it ty x t i) := by
  rcases hty with e | e
  · rw [e]; exact Draws.strAscii (A := A.in1) hh it x t
  · rw [e]; exact Draws.strWide (A := A.in1) hh it x t
theorem turn_enumS {P : Program} {w : World} {K : PySem.W.Frag} {elts : List Expr} {kk : Nat} {tpos : Pos} (e it : Addr) (x : Str) (t : Tok) (ty : String) (hty : ty = "str_ascii_iterator" ∨ ty = "str_iterator") :
    Turn P w K (.Tuple elts kk tpos) (Ites x) [e, it] e (fun i h => (∃ old, IsEnum h e it ((i : Nat) : Int) old) ∧ h.IsStrIter it ty x t i ∧ e ≠ it) where
  mem := by simp
  obj := fun i h st b hb => by
    obtain ⟨⟨old, he⟩, ⟨o, ho, hc, hd⟩, _⟩ := st
    have e' : b = e ∨ b = it := by simpa using hb
    rcases e' with z | z
    · rw [z]; exact ⟨_, he, fun v q => nomatch q⟩
    · rw [z]; exact ⟨o, ho, fun v q => by rw [hd] at q; cases q⟩
  keep := fun i h h' st k => let ⟨⟨old, he⟩, ⟨o, ho, r⟩, hne⟩ := st; ⟨⟨old, k e (by simp) _ he⟩, ⟨o, k it (by simp) o ho, r⟩, hne⟩
  item := by
    intro X hP hw hK hc i pins s σ H E I hf st hg
    subst hP hw hK
    obtain ⟨⟨old, he⟩, hit, hne⟩ := st
    have hel : e < s.heap.objs.size := Heap.lt_size he
    have hil : it < s.heap.objs.size := by obtain ⟨_, q, _⟩ := hit; exact Heap.lt_size q
    refine wpAny_pyNext_enum_itemD (draws_str (I.ok.hd hc) it x t ty hty) he hit hg hne (by simpa using hne) fun u h' tk hP ho hit' hT hsz hk => ?_
    obtain ⟨c, uu, hcx, rfl⟩ := hP
    refine ⟨_, rfl, wpAny_letOwnedTupleGo_enum (s := { s with heap := h', toks := tk + 1 }) ho fun h'' he' sb => ?_⟩
    have hT2 : h''.get? s.heap.objs.size = some { cls := .type "tuple", data := .seq #[.int i tk, .str ⟨#[c]⟩ uu] } := (sb.2 _ (Nat.ne_of_gt hel)).trans hT
    have new : ObjOk X.prog X.w (upd H s.heap.objs.size (.tup [.int (i : Nat), .str ⟨#[c]⟩])) h'' s.heap.objs.size (.tup [.int (i : Nat), .str ⟨#[c]⟩]) :=
      ⟨by show 2 ≤ sizeLine; decide, [.int i tk, .str ⟨#[c]⟩ uu], .cons ⟨_, rfl⟩ (.cons ⟨_, rfl⟩ .nil), ⟨_, hT2, rfl, _, rfl⟩⟩
    have I1 : Inv X pins σ (upd H s.heap.objs.size (.tup [.int (i : Nat), .str ⟨#[c]⟩])) { s with heap := h'', toks := tk + 1 } :=
      I.turnedNew (ch := [e, it]) (fun b ob hb q => (sb.2 b (fun z => hb (by simp [z]))).trans (hk b ob (fun z => hb (by simp [z])) (fun z => hb (by simp [z])) q)) hf (Nat.le_refl _) new
    refine ⟨.ref s.heap.objs.size, _, I1, rfl, ⟨_, c, rfl, I.hok.fresh (Nat.le_refl _), rfl, hcx⟩, ⟨⟨Value.str ⟨#[c]⟩ uu, ?_⟩, ?_, hne⟩, fun b hb => ?_⟩
    · have e1 : ((i + 1 : Nat) : Int) = (i : Int) + 1 := by omega
      rw [e1]; exact he'
    · obtain ⟨o, q, r⟩ := hit'
      exact ⟨o, (sb.2 it (Ne.symm hne)).trans q, r⟩
    · have hb' : b < s.heap.objs.size := by
        have e' : b = e ∨ b = it := by simpa using hb
        rcases e' with z | z
        · rw [z]; exact hel
        · rw [z]; exact hil
      rw [upd_ne (Nat.ne_of_lt hb')]
      exact (hf b hb).1
  done := by
    intro X hP hw hK hc i pins s σ H E I hf st hg
    subst hP hw hK
    obtain ⟨⟨old, he⟩, hit, hne⟩ := st
    obtain ⟨f0, f1, f2, f3, f4, f5⟩ := hf it (by simp)
    have D := draws_str (P := X.prog) (w := X.w) (A := X.A) (I.ok.hd hc) it x t ty hty
    have hg : i = x.cps.size := hg
    subst hg
    exact wpAny_pyNext_enum_endD D he hit fun h' eb => ⟨rfl, I.turned (t' := s.toks) (fun b o hb q => eb b o hb q) f0 f1 f3 f4 f5⟩
  self := fun A i s Q E st h => let ⟨⟨_, he⟩, _⟩ := st; wpAny_pyIter_enum he h
def iEnumS (ta : TA) : TI := fun σ H R => ta σ H fun vs H1 => ∃ x, vs = [.str x] ∧ R (Ites x) H1
theorem pi_enumS {X : Cx} {e : Expr} {ta : TA} {p pos tpos : Pos} {elts : List Expr} {kk : Nat} (hg : Gl X "enumerate") (hm : X.mg "enumerate" = none) (ha : PA X [e] ta) (hs : starEach [e] X.env = [(false, eval e X.env)] := by rfl) :
    PI X (.Tuple elts kk tpos) (.Call (.Name "enumerate" p) [e] [] pos) (iEnumS ta) := by
  refine ⟨fun pins s σ H R I h => ?_⟩
  refine Call_ (ld_blt I hg hm boot_enumerate (PyProof.Rows.callWith_type1 (thn (ha.run pos pins s σ H _ I h) fun us s1 ⟨vs, H1, I1, r1, q1⟩ => ?_) hs rfl))
  obtain ⟨x, ex, q⟩ := q1
  subst ex
  cases r1 with
  | cons r rr =>
    cases rr
    obtain ⟨t, rfl⟩ := r
    refine call_enumerate_str fun h' he hit hsz hk => wpAny_pyIter_enum he ?_
    have I2 : Inv X pins σ H1 { s1 with heap := h' } := I1.kept (t' := s1.toks) hk
    have hty : strIterType x = "str_ascii_iterator" ∨ strIterType x = "str_iterator" := by
      unfold strIterType
      split
      · exact .inl rfl
      · exact .inr rfl
    refine ⟨s1.heap.objs.size + 1, [s1.heap.objs.size + 1, s1.heap.objs.size], _, _, H1, rfl, I2, turn_enumS (s1.heap.objs.size + 1) s1.heap.objs.size x t (strIterType x) hty, ⟨⟨.none, he⟩, hit, Nat.succ_ne_self _⟩, fun b hb => ?_, q⟩
    have e' : b = s1.heap.objs.size + 1 ∨ b = s1.heap.objs.size := by simpa using hb
    have hle : s1.heap.objs.size ≤ b := by
      rcases e' with z | z
      · rw [z]; exact Nat.le_add_right _ _
      · rw [z]; exact Nat.le_refl _
    exact I1.fpOk hle (I1.hok.fresh hle)
theorem walk_enumS {x : Str} : Walk (Ites x) x.cps.size (fun _ => True) (YPair (fun i => some (.int (i : Nat))) (fun i => x.cps[i]?.map fun c => V.str ⟨#[c]⟩)) := by
  refine ⟨fun i _ hi _ => hi, fun _ _ => rfl, fun i H v H' _ _ y => ?_⟩
  obtain ⟨T, c, h1, h2, h3, h4⟩ := y
  exact ⟨T, .int (i : Nat), _, h1, h2, h3, rfl, by show Option.map (fun c => V.str ⟨#[c]⟩) x.cps[i]? = _; rw [h4]; rfl⟩
end L2

/-! Ak: sums, webs, Goodman's count of the threes that are alike. Plain Lean. -/
namespace Ak
/-- sums of f below n -/
def sm : Nat → (Nat → Int) → Int
  | 0, _ => 0
  | n + 1, f => sm n f + f n
theorem sm_congr : ∀ {n : Nat} {f g : Nat → Int}, (∀ i, i < n → f i = g i) → sm n f = sm n g
  | 0, _, _, _ => rfl
  | n + 1, f, g, h => by
    show sm n f + f n = sm n g + g n
    rw [sm_congr (n := n) fun i hi => h i (by omega), h n (by omega)]
theorem sm_add : ∀ (n : Nat) (f g : Nat → Int), sm n (fun i => f i + g i) = sm n f + sm n g
  | 0, _, _ => rfl
  | n + 1, f, g => by
    show sm n (fun i => f i + g i) + (f n + g n) = (sm n f + f n) + (sm n g + g n)
    rw [sm_add n f g]; omega
theorem sm_sub : ∀ (n : Nat) (f g : Nat → Int), sm n (fun i => f i - g i) = sm n f - sm n g
  | 0, _, _ => rfl
  | n + 1, f, g => by
    show sm n (fun i => f i - g i) + (f n - g n) = (sm n f + f n) - (sm n g + g n)
    rw [sm_sub n f g]; omega
theorem sm_mul (c : Int) : ∀ (n : Nat) (f : Nat → Int), sm n (fun i => c * f i) = c * sm n f
  | 0, _ => by simp [sm]
  | n + 1, f => by
    show sm n (fun i => c * f i) + c * f n = c * (sm n f + f n)
    rw [sm_mul c n f, Int.mul_add]
theorem sm_const (c : Int) : ∀ n : Nat, sm n (fun _ => c) = n * c
  | 0 => by simp [sm]
  | n + 1 => by
    show sm n (fun _ => c) + c = ((n + 1 : Nat) : Int) * c
    rw [sm_const c n]; grind
theorem sm_le : ∀ {n : Nat} {f g : Nat → Int}, (∀ i, i < n → f i ≤ g i) → sm n f ≤ sm n g
  | 0, _, _, _ => Int.le_refl _
  | n + 1, f, g, h => by
    have h1 := sm_le (n := n) fun i hi => h i (by omega)
    have h2 := h n (by omega)
    show sm n f + f n ≤ sm n g + g n
    omega
theorem sm_nn {n : Nat} {f : Nat → Int} (h : ∀ i, i < n → 0 ≤ f i) : 0 ≤ sm n f := by
  have := sm_le (n := n) (f := fun _ => 0) (g := f) h
  rw [sm_const] at this; omega
theorem sm_zero_iff : ∀ {n : Nat} {f : Nat → Int}, (∀ i, i < n → 0 ≤ f i) → (sm n f = 0 ↔ ∀ i, i < n → f i = 0)
  | 0, _, _ => ⟨fun _ i hi => absurd hi (by omega), fun _ => rfl⟩
  | n + 1, f, h => by
    have ih := sm_zero_iff (n := n) fun i hi => h i (by omega)
    have h1 := sm_nn (n := n) fun i hi => h i (by omega)
    have h2 := h n (by omega)
    show sm n f + f n = 0 ↔ _
    constructor
    · intro e i hi
      by_cases hin : i = n
      · subst hin; omega
      · exact ih.mp (by omega) i (by omega)
    · intro e
      have e1 := ih.mpr fun i hi => e i (by omega)
      have e2 := e n (by omega)
      omega
theorem sm_shift : ∀ (n : Nat) (f : Nat → Int), sm (n + 1) f = f 0 + sm n (fun i => f (i + 1))
  | 0, f => by simp [sm]
  | n + 1, f => by
    show sm (n + 1) f + f (n + 1) = f 0 + (sm n (fun i => f (i + 1)) + f (n + 1))
    rw [sm_shift n f]; omega
theorem sm_rev : ∀ (n : Nat) (f : Nat → Int), sm n (fun i => f (n - 1 - i)) = sm n f
  | 0, _ => rfl
  | n + 1, f => by
    rw [sm_shift]
    show f (n + 1 - 1 - 0) + _ = sm n f + f n
    have e : sm n (fun i => f (n + 1 - 1 - (i + 1))) = sm n (fun i => f (n - 1 - i)) := sm_congr fun i hi => by
      congr 1; omega
    rw [e, sm_rev n f]
    simp only [Nat.add_sub_cancel, Nat.sub_zero]; omega
theorem sm_swap : ∀ (m n : Nat) (f : Nat → Nat → Int), sm m (fun i => sm n (fun j => f i j)) = sm n (fun j => sm m (fun i => f i j))
  | 0, n, f => by
    show 0 = sm n (fun _ => 0)
    rw [sm_const]; omega
  | m + 1, n, f => by
    show sm m (fun i => sm n (fun j => f i j)) + sm n (fun j => f m j) = sm n (fun j => sm m (fun i => f i j) + f m j)
    rw [sm_swap m n f, sm_add]
def b2 (b : Bool) : Int := if b then 1 else 0
theorem b2_nn (b : Bool) : 0 ≤ b2 b := by cases b <;> decide
theorem b2_le (b : Bool) : b2 b ≤ 1 := by cases b <;> decide
theorem b2_not (b : Bool) : b2 (!b) = 1 - b2 b := by cases b <;> rfl
theorem b2_zero {b : Bool} : b2 b = 0 ↔ b = false := by cases b <;> simp [b2]

abbrev Rel := Nat → Nat → Bool
structure IsW (n : Nat) (k : Rel) : Prop where
  sym : ∀ i j, i < n → j < n → k i j = k j i
  irr : ∀ i, i < n → k i i = false
/-- the web of those who don't -/
def turn (k : Rel) : Rel := fun i j => !(k i j || decide (j = i))
theorem IsW.turn {n : Nat} {k : Rel} (h : IsW n k) : IsW n (turn k) := by
  refine ⟨fun i j hi hj => ?_, fun i _ => ?_⟩
  · show (!(k i j || decide (j = i))) = !(k j i || decide (i = j))
    rw [h.sym i j hi hj]
    by_cases e : j = i
    · subst e; rfl
    · have e' : ¬ i = j := fun z => e z.symm
      simp [e, e']
  · show (!(k i i || decide (i = i))) = false
    simp
theorem turn_turn {n : Nat} {k : Rel} (h : IsW n k) {i j : Nat} (hi : i < n) (_ : j < n) : Ak.turn (Ak.turn k) i j = k i j := by
  show (!((!(k i j || decide (j = i))) || decide (j = i))) = k i j
  by_cases e : j = i
  · subst e; simp [h.irr _ hi]
  · simp [e]
/-- how many one knows -/
def deg (n : Nat) (k : Rel) (i : Nat) : Int := sm n fun j => b2 (k i j)
def mixed (n : Nat) (k : Rel) : Int := sm n fun i => deg n k i * ((n : Int) - 1 - deg n k i)
/-- threes who all know one another -/
def threes (n : Nat) (k : Rel) : Int := sm n fun a => sm a fun b => sm b fun c => b2 (k a b && (k a c && k b c))
def alikeN (n : Nat) (k : Rel) : Int := threes n k + threes n (turn k)
def n3 (n : Nat) : Int := sm n fun a => sm a fun b => (b : Int)

theorem offdiag (g : Nat → Nat → Int) : ∀ n : Nat, sm n (fun v => sm n fun c => if c = v then 0 else g v c) = sm n fun b => sm b fun c => g b c + g c b
  | 0 => rfl
  | n + 1 => by
    have ih := offdiag g n
    show sm n (fun v => sm n (fun c => if c = v then 0 else g v c) + (if n = v then 0 else g v n)) + (sm n (fun c => if c = n then 0 else g n c) + (if n = n then 0 else g n n)) = sm n (fun b => sm b fun c => g b c + g c b) + sm n fun c => g n c + g c n
    rw [sm_add, ih, sm_add n (fun c => g n c) (fun c => g c n)]
    have e1 : sm n (fun v => if n = v then 0 else g v n) = sm n (fun c => g c n) := sm_congr fun i hi => by rw [if_neg (by omega)]
    have e2 : sm n (fun c => if c = n then 0 else g n c) = sm n (fun c => g n c) := sm_congr fun i hi => by rw [if_neg (by omega)]
    rw [e1, e2, if_pos rfl]; omega
/-- angles at v -/
def ang (h : Nat → Nat → Nat → Int) (n v : Nat) : Int := sm n fun b => if b = v then 0 else sm b fun c => if c = v then 0 else h v b c
theorem ang_succ (h : Nat → Nat → Nat → Int) (n v : Nat) (hv : v < n) : ang h (n + 1) v = ang h n v + sm n (fun c => if c = v then 0 else h v n c) := by
  show sm n _ + (if n = v then 0 else _) = _
  rw [if_neg (by omega)]; rfl
theorem ang_top (h : Nat → Nat → Nat → Int) (n : Nat) : ang h (n + 1) n = sm n fun b => sm b fun c => h n b c := by
  show sm n _ + (if n = n then 0 else _) = _
  rw [if_pos rfl, Int.add_zero]
  refine sm_congr fun b hb => ?_
  rw [if_neg (by omega)]
  exact sm_congr fun c hc => by rw [if_neg (by omega)]
theorem tri_ang (h : Nat → Nat → Nat → Int) : ∀ n : Nat, (sm n fun a => sm a fun b => sm b fun c => h a b c + (h b a c + h c a b)) = sm n (ang h n)
  | 0 => rfl
  | n + 1 => by
    have ih := tri_ang h n
    show (sm n fun a => sm a fun b => sm b fun c => h a b c + (h b a c + h c a b)) + (sm n fun b => sm b fun c => h n b c + (h b n c + h c n b)) = sm n (ang h (n + 1)) + ang h (n + 1) n
    have e1 : sm n (ang h (n + 1)) = sm n (ang h n) + sm n (fun v => sm n (fun c => if c = v then 0 else h v n c)) := by
      rw [← sm_add]
      exact sm_congr fun v hv => ang_succ h n v hv
    have e2 : (sm n fun b => sm b fun c => h n b c + (h b n c + h c n b)) = (sm n fun b => sm b fun c => h n b c) + (sm n fun b => sm b fun c => h b n c + h c n b) := by
      rw [← sm_add]
      exact sm_congr fun b _ => sm_add b _ _
    rw [ih, e1, e2, ang_top, offdiag (fun v c => h v n c)]
    omega
theorem pairs_row (f : Nat → Bool) (v : Nat) (x : Bool) : ∀ m : Nat, sm m (fun c => if c = v then 0 else b2 (x != f c)) = if x then sm m (fun c => if c = v then 0 else 1 - b2 (f c)) else sm m (fun c => if c = v then 0 else b2 (f c))
  | 0 => by cases x <;> rfl
  | m + 1 => by
    have ih := pairs_row f v x m
    show sm m (fun c => if c = v then 0 else b2 (x != f c)) + (if m = v then 0 else b2 (x != f m)) = if x then sm m (fun c => if c = v then 0 else 1 - b2 (f c)) + (if m = v then 0 else 1 - b2 (f m)) else sm m (fun c => if c = v then 0 else b2 (f c)) + (if m = v then 0 else b2 (f m))
    rw [ih]
    cases x <;> cases f m <;> simp [b2]
theorem pairs (f : Nat → Bool) (v : Nat) : ∀ m : Nat, (sm m fun b => if b = v then 0 else sm b fun c => if c = v then 0 else b2 (f b != f c)) = sm m (fun c => if c = v then 0 else b2 (f c)) * sm m (fun c => if c = v then 0 else 1 - b2 (f c))
  | 0 => rfl
  | m + 1 => by
    have ih := pairs f v m
    show (sm m fun b => if b = v then 0 else sm b fun c => if c = v then 0 else b2 (f b != f c)) + (if m = v then 0 else sm m fun c => if c = v then 0 else b2 (f m != f c)) =
      (sm m (fun c => if c = v then 0 else b2 (f c)) + (if m = v then 0 else b2 (f m))) * (sm m (fun c => if c = v then 0 else 1 - b2 (f c)) + (if m = v then 0 else 1 - b2 (f m)))
    rw [ih]
    by_cases e : m = v
    · rw [if_pos e, if_pos e, if_pos e]; grind
    · rw [if_neg e, if_neg e, if_neg e, pairs_row]
      cases f m <;> simp [b2] <;> grind
theorem sm_but (v : Nat) (g : Nat → Int) : ∀ n : Nat, v < n → sm n (fun c => if c = v then 0 else g c) = sm n g - g v
  | 0, h => absurd h (by omega)
  | n + 1, h => by
    show sm n (fun c => if c = v then 0 else g c) + (if n = v then 0 else g n) = (sm n g + g n) - g v
    by_cases e : n = v
    · subst e
      have : sm n (fun c => if c = n then 0 else g c) = sm n g := sm_congr fun i hi => by rw [if_neg (by omega)]
      rw [this, if_pos rfl]; omega
    · rw [sm_but v g n (by omega), if_neg e]; omega
theorem ang_deg {n : Nat} {k : Rel} (hw : IsW n k) {v : Nat} (hv : v < n) : ang (fun v b c => b2 (k v b != k v c)) n v = deg n k v * ((n : Int) - 1 - deg n k v) := by
  have e := pairs (k v) v n
  have e1 := sm_but v (fun c => b2 (k v c)) n hv
  have e2 := sm_but v (fun c => 1 - b2 (k v c)) n hv
  have e0 : b2 (k v v) = 0 := by rw [hw.irr v hv]; rfl
  have e3 : sm n (fun c => 1 - b2 (k v c)) = n - deg n k v := by
    rw [sm_sub, sm_const]
    show (n : Int) * 1 - deg n k v = n - deg n k v
    omega
  have e4 : sm n (fun c => b2 (k v c)) = deg n k v := rfl
  show (sm n fun b => if b = v then 0 else sm b fun c => if c = v then 0 else b2 (k v b != k v c)) = _
  rw [e, e1, e2, e3, e4]
  simp only [e0]
  congr 1
  · omega
  · omega
theorem one_three (x y z : Bool) : 2 * (b2 (x && (y && z)) + b2 ((!x) && ((!y) && (!z)))) + (b2 (x != y) + (b2 (x != z) + b2 (y != z))) = 2 := by
  cases x <;> cases y <;> cases z <;> rfl
theorem turn_ne {k : Rel} {i j : Nat} (h : i ≠ j) : turn k i j = !(k i j) := by
  show (!(k i j || decide (j = i))) = _
  rw [decide_eq_false (fun e => h e.symm)]; simp
theorem sm_two (n : Nat) (f g : Nat → Int) : sm n (fun i => 2 * f i + g i) = 2 * sm n f + sm n g := by
  rw [sm_add, sm_mul]
theorem goodman {n : Nat} {k : Rel} (hw : IsW n k) : 2 * alikeN n k + mixed n k = 2 * n3 n := by
  have e1 : mixed n k = sm n fun a => sm a fun b => sm b fun c => b2 (k a b != k a c) + (b2 (k b a != k b c) + b2 (k c a != k c b)) := by
    rw [tri_ang (fun v b c => b2 (k v b != k v c)) n]
    exact sm_congr fun v hv => (ang_deg hw hv).symm
  have e2 : alikeN n k = sm n fun a => sm a fun b => sm b fun c => b2 (k a b && (k a c && k b c)) + b2 ((!(k a b)) && ((!(k a c)) && (!(k b c)))) := by
    show threes n k + threes n (turn k) = _
    show (sm n fun a => sm a fun b => sm b fun c => b2 (k a b && (k a c && k b c))) + (sm n fun a => sm a fun b => sm b fun c => b2 (turn k a b && (turn k a c && turn k b c))) = _
    rw [← sm_add]
    refine sm_congr fun a _ => ?_
    rw [← sm_add]
    refine sm_congr fun b hb => ?_
    rw [← sm_add]
    refine sm_congr fun c hc => ?_
    rw [turn_ne (show a ≠ b by omega), turn_ne (show a ≠ c by omega), turn_ne (show b ≠ c by omega)]
  rw [e1, e2, ← sm_two]
  show _ = 2 * sm n fun a => sm a fun b => (b : Int)
  rw [← sm_mul]
  refine sm_congr fun a ha => ?_
  rw [← sm_two, ← sm_mul]
  refine sm_congr fun b hb => ?_
  rw [← sm_two]
  have e3 : sm b (fun _ => (2 : Int)) = 2 * (b : Int) := by rw [sm_const]; omega
  rw [← e3]
  refine sm_congr fun c hc => ?_
  rw [hw.sym b a (by omega) ha, hw.sym c a (by omega) ha, hw.sym c b (by omega) (by omega)]
  exact one_three (k a b) (k a c) (k b c)
theorem n2_eq : ∀ n : Nat, 2 * sm n (fun b => (b : Int)) = (n : Int) * (n - 1)
  | 0 => rfl
  | n + 1 => by
    have ih := n2_eq n
    show 2 * (sm n (fun b => (b : Int)) + n) = ((n + 1 : Nat) : Int) * ((n + 1 : Nat) - 1)
    grind
theorem n3_eq : ∀ n : Nat, 6 * n3 n = (n : Int) * (n - 1) * (n - 2)
  | 0 => rfl
  | n + 1 => by
    have ih := n3_eq n
    have h2 := n2_eq n
    show 6 * (n3 n + sm n (fun b => (b : Int))) = ((n + 1 : Nat) : Int) * ((n + 1 : Nat) - 1) * ((n + 1 : Nat) - 2)
    grind
/-- what alike tells -/
def alikeZ (n : Nat) (k : Rel) : Int := (n : Int) * (n - 1) * (n - 2) / 6 - mixed n k / 2
theorem alike_eq {n : Nat} {k : Rel} (hw : IsW n k) : alikeZ n k = alikeN n k := by
  have h1 := goodman hw
  have h2 := n3_eq n
  unfold alikeZ
  rw [← h2]
  omega
theorem threes_nn (n : Nat) (k : Rel) : 0 ≤ threes n k := sm_nn fun _ _ => sm_nn fun _ _ => sm_nn fun _ _ => b2_nn _
theorem threes_zero {n : Nat} {k : Rel} : threes n k = 0 ↔ ∀ a b c, a < n → b < a → c < b → ¬ (k a b = true ∧ k a c = true ∧ k b c = true) := by
  unfold threes
  rw [sm_zero_iff fun _ _ => sm_nn fun _ _ => sm_nn fun _ _ => b2_nn _]
  constructor
  · intro h a b c ha hb hc ⟨h1, h2, h3⟩
    have q := (sm_zero_iff (fun _ _ => b2_nn _)).mp ((sm_zero_iff (fun _ _ => sm_nn fun _ _ => b2_nn _)).mp (h a ha) b hb) c hc
    rw [h1, h2, h3] at q
    exact absurd q (by decide)
  · intro h a ha
    refine (sm_zero_iff (fun _ _ => sm_nn fun _ _ => b2_nn _)).mpr fun b hb => (sm_zero_iff (fun _ _ => b2_nn _)).mpr fun c hc => ?_
    rw [b2_zero]
    have q := h a b c ha hb hc
    cases h1 : k a b <;> cases h2 : k a c <;> cases h3 : k b c <;> first | rfl | exact absurd ⟨h1, h2, h3⟩ q
/-- the fewest -/
def fewestZ (n : Int) : Int :=
  if n % 2 = 0 then n * (n - 2) * (n - 4) / 24 else if n % 4 = 1 then n * (n - 1) * (n - 5) / 24 else (n + 1) * (n - 3) * (n - 4) / 24
theorem deg_nn (n : Nat) (k : Rel) (i : Nat) : 0 ≤ deg n k i := sm_nn fun _ _ => b2_nn _
theorem sq_half (u d : Int) : d * (2 * u - 1 - d) ≤ u * (u - 1) := by
  have h : 0 ≤ (u - d) * (u - 1 - d) := by
    by_cases c : d < u
    · exact Int.mul_nonneg (by omega) (by omega)
    · have := Int.mul_nonneg (show 0 ≤ d - u by omega) (show 0 ≤ d - (u - 1) by omega)
      grind
  grind
theorem sq_half2 (u d : Int) : d * (2 * u - d) ≤ u * u := by
  have h : 0 ≤ (u - d) * (u - d) := by
    by_cases c : d < u
    · exact Int.mul_nonneg (by omega) (by omega)
    · have := Int.mul_nonneg (show 0 ≤ d - u by omega) (show 0 ≤ d - u by omega)
      grind
  grind
theorem mixed_le (n : Nat) (k : Rel) (B : Int) (h : ∀ d : Int, d * ((n : Int) - 1 - d) ≤ B) : mixed n k ≤ n * B := by
  rw [← sm_const]
  exact sm_le fun i _ => h _
theorem fewest_le {n : Nat} {k : Rel} (hw : IsW n k) : fewestZ n ≤ alikeN n k := by
  have h1 := goodman hw
  have h2 := n3_eq n
  unfold fewestZ
  by_cases c0 : (n : Int) % 2 = 0
  · rw [if_pos c0]
    obtain ⟨u, hu⟩ : ∃ u : Int, (n : Int) = 2 * u := ⟨n / 2, by omega⟩
    have hm := mixed_le n k (u * (u - 1)) fun d => by rw [hu]; exact sq_half u d
    rw [hu] at hm h2 ⊢
    have key : 2 * u * (2 * u - 2) * (2 * u - 4) ≤ 24 * alikeN n k := by grind
    omega
  · rw [if_neg c0]
    by_cases c1 : (n : Int) % 4 = 1
    · rw [if_pos c1]
      obtain ⟨u, hu⟩ : ∃ u : Int, (n : Int) = 4 * u + 1 := ⟨n / 4, by omega⟩
      have hm := mixed_le n k ((2 * u) * (2 * u)) fun d => by
        have := sq_half2 (2 * u) d
        rw [hu]
        have e : (4 * u + 1 - 1 - d) = 2 * (2 * u) - d := by omega
        rw [e]; exact this
      rw [hu] at hm h2 ⊢
      have key : (4 * u + 1) * (4 * u + 1 - 1) * (4 * u + 1 - 5) ≤ 24 * alikeN n k := by grind
      omega
    · rw [if_neg c1]
      obtain ⟨u, hu⟩ : ∃ u : Int, (n : Int) = 4 * u + 3 := ⟨n / 4, by omega⟩
      have hm := mixed_le n k ((2 * u + 1) * (2 * u + 1)) fun d => by
        have := sq_half2 (2 * u + 1) d
        rw [hu]
        have e : (4 * u + 3 - 1 - d) = 2 * (2 * u + 1) - d := by omega
        rw [e]; exact this
      have hp : mixed n k ≤ n * ((2 * u + 1) * (2 * u + 1)) - 1 := by
        have odd : ((n : Int) * ((2 * u + 1) * (2 * u + 1))) % 2 = 1 := by
          obtain ⟨z, hz⟩ : ∃ z : Int, (n : Int) * ((2 * u + 1) * (2 * u + 1)) = 2 * z + 1 := ⟨8*u*u*u + 14 * u * u + 8 * u + 1, by rw [hu]; grind⟩
          omega
        omega
      rw [hu] at hp h2 ⊢
      have key : (4 * u + 3 + 1) * (4 * u + 3 - 3) * (4 * u + 3 - 4) ≤ 24 * alikeN n k := by grind
      omega
theorem fewest_pos {n : Nat} (h : 6 ≤ n) : 0 < fewestZ n := by
  unfold fewestZ
  have mono : ∀ a b c : Int, 6 ≤ a → 4 ≤ b → 1 ≤ c → 24 ≤ a * b * c := fun a b c ha hb hc => by
    have h1 : 6 * 4 ≤ a * b := Int.mul_le_mul ha hb (by omega) (by omega)
    have h2 : 24 * 1 ≤ a * b * c := Int.mul_le_mul h1 hc (by omega) (by omega)
    omega
  split
  · have := mono (n : Int) (n - 2) (n - 4) (by omega) (by omega) (by omega)
    omega
  · split
    · have := mono (n : Int) (n - 1) (n - 5) (by omega) (by omega) (by omega)
      omega
    · have := mono ((n : Int) + 1) (n - 3) (n - 4) (by omega) (by omega) (by omega)
      omega
/-- the reversed web -/
def rvs (n : Nat) (k : Rel) : Rel := fun i j => k (n - 1 - i) (n - 1 - j)
theorem rvs_w {n : Nat} {k : Rel} (h : IsW n k) : IsW n (rvs n k) :=
  ⟨fun i j hi hj => h.sym _ _ (by omega) (by omega), fun i hi => h.irr _ (by omega)⟩
theorem rvs_deg (n : Nat) (k : Rel) (i : Nat) : deg n (rvs n k) i = deg n k (n - 1 - i) :=
  sm_rev n fun j => b2 (k (n - 1 - i) j)
theorem rvs_alike (n : Nat) (k : Rel) : alikeZ n (rvs n k) = alikeZ n k := by
  have e : mixed n (rvs n k) = mixed n k := by
    unfold mixed
    rw [← sm_rev n (fun i => deg n k i * ((n : Int) - 1 - deg n k i))]
    exact sm_congr fun i _ => by rw [rvs_deg]
  unfold alikeZ
  rw [e]
theorem turn_deg {n : Nat} {k : Rel} (hw : IsW n k) {i : Nat} (hi : i < n) : deg n (turn k) i = n - 1 - deg n k i := by
  have e : deg n (turn k) i = sm n (fun c => if c = i then 0 else 1 - b2 (k i c)) := sm_congr fun c hc => by
    by_cases z : c = i
    · subst z
      rw [if_pos rfl, hw.turn.irr _ hc]; rfl
    · rw [if_neg z, turn_ne (fun q => z q.symm), b2_not]
  rw [e, sm_but i (fun c => 1 - b2 (k i c)) n hi, sm_sub, sm_const, hw.irr i hi]
  show (n : Int) * 1 - deg n k i - (1 - b2 false) = n - 1 - deg n k i
  have : b2 false = 0 := rfl
  omega
theorem turn_alike {n : Nat} {k : Rel} (hw : IsW n k) : alikeZ n (turn k) = alikeZ n k := by
  have e : mixed n (turn k) = mixed n k := by
    refine sm_congr fun i hi => ?_
    rw [turn_deg hw hi]
    grind
  unfold alikeZ
  rw [e]
theorem alikeN_zero {n : Nat} {k : Rel} : alikeN n k = 0 ↔ (∀ a b c, a < n → b < a → c < b → ¬ (k a b = true ∧ k a c = true ∧ k b c = true)) ∧ (∀ a b c, a < n → b < a → c < b → ¬ (k a b = false ∧ k a c = false ∧ k b c = false)) := by
  have h1 := threes_nn n k
  have h2 := threes_nn n (turn k)
  have e : alikeN n k = 0 ↔ threes n k = 0 ∧ threes n (turn k) = 0 := by
    unfold alikeN; omega
  rw [e, threes_zero, threes_zero]
  refine and_congr_right fun _ => ?_
  constructor
  · intro h a b c ha hb hc ⟨e1, e2, e3⟩
    refine h a b c ha hb hc ?_
    rw [turn_ne (show a ≠ b by omega), turn_ne (show a ≠ c by omega), turn_ne (show b ≠ c by omega), e1, e2, e3]
    exact ⟨rfl, rfl, rfl⟩
  · intro h a b c ha hb hc q
    rw [turn_ne (show a ≠ b by omega), turn_ne (show a ≠ c by omega), turn_ne (show b ≠ c by omega)] at q
    exact h a b c ha hb hc (by simpa using q)
end Ak

namespace AK
open PySem PySem.Spec PyProof.Rows L2 Evl Ak
abbrev St := L2.St
/-! ### defs by their names -/
/-- a def keeps a promise, called by its global name -/
def Has (P : Program) (w : World) (K : PySem.W.Frag) (mg : Str → Option Value) (base : Heap) (CX : CXT) (k : Nat) (x : Str) (ps : List Str) (sp : Sp) : Prop :=
  ∃ f fd, mg x = some (.ref f) ∧ PySem.W.keepIn K (.ref f) = true ∧ Binds K fd ps [] ∧ FnOk P w K mg base CX k f fd ps sp
/-- a def of the text stands at its global name -/
def At (K : PySem.W.Frag) (mg : Str → Option Value) (x : Str) (st : Stmt) (ps : List Str) : Prop :=
  ∃ f fd, Fun K x x st f fd ∧ mg x = some (.ref f) ∧ Binds K fd ps []
section
variable {P : Program} {w : World} {K : PySem.W.Frag} {mg : Str → Option Value} {base : Heap}
theorem Has.mono {CX : CXT} {j k : Nat} {x : Str} {ps : List Str} {sp : Sp} (h : Has P w K mg base CX j x ps sp) (hk : j ≤ k) : Has P w K mg base CX k x ps sp :=
  let ⟨f, fd, a, b, c, d⟩ := h; ⟨f, fd, a, b, c, d.mono hk⟩
theorem has_of {x : Str} {st : Stmt} {N ps : List Str} {k : Nat} {sp : Sp} (D : At K mg x st ps) (S : FnScope N ps (defScope st)) (len : ∀ vs H Q E, sp vs H Q E → vs.length = ps.length)
    (hbody : ∀ (f : Addr) (cdv : Value) (A : Around) (outer : List Env) (s : Shared) (H : Hp) (vs : List V) (Q : VK) (E : XK), Room k (A.deeper (envOfC x (defScope st) s.heap.objs.size f cdv)) → sp vs H Q E →
      ∃ t, PSs (cxOf CX0 P w K mg base N x (defScope st) f cdv A outer s H E).nox (defBody st) t ∧ t { nx := fun _ H' => Q .non H', rt := Q } (start N vs) H) : Has P w K mg base CX0 (k + 1) x ps sp := by
  obtain ⟨f, fd, F, m, b⟩ := D
  exact ⟨f, fd, m, F.kp, b, F.ok S len (hbody f)⟩
end
theorem hcall {X : Cx} {x : Str} {ps : List Str} {sp : Sp} {k : Nat} {p pos : Pos} {e : Expr} {es : List Expr} {t : TA} (h : Has X.prog X.w X.K X.mg X.base CX0 k x ps sp) (hr : Room k X.A) (ha : PA X (e :: es) t) (hg : Gl X x := by rfl) (hd : (x == ("__debug__" : Str)) = false := by decide)
    (hs : starEach (e :: es) X.env = (false, eval e X.env) :: starEach es X.env := by rfl) (hpl : (backTo pos (starEach es X.env)).any (·.1) = false := by rfl) :
    PE X (.Call (.Name x p) (e :: es) [] pos) (tCall sp [] E0 t) := by
  obtain ⟨f, fd, m, kp, b, G⟩ := h
  exact pe_call G hr hg m kp b .nil pass0 ha hd hs hpl
/-! ### names in short -/
theorem nm {X : Cx} (i : Nat) {x : Str} {pos : Pos} (hN : X.N.Nodup) (hi : X.N[i]? = some x := by rfl) (hx : Loc X.env.scope x := by first | exact Or.inl rfl | exact Or.inr rfl) (hf : X.fn x = true ∨ X.env.scope.names.lookup x = some .local := by first | exact .inl rfl | exact .inr rfl) : PG X (.Name x pos) (gName i) := pg_name hN hi hx hf
theorem st_ {X : Cx} (i : Nat) {x : Str} {pos pos' : Pos} {e : Expr} {te : TE} (hN : X.N.Nodup) (he : PE X e te) (hi : X.N[i]? = some x := by rfl) (hx : Loc X.env.scope x := by first | exact Or.inl rfl | exact Or.inr rfl)
    (hs : swapsWith e (some (.Name x pos')) pos.line X.env = pure false := by rfl) (hf : X.fn x = true ∨ X.env.scope.names.lookup x = some .local := by first | exact .inl rfl | exact .inr rfl) : PS X (.Assign [.Name x pos'] e pos) (tAsg te (gName i)) := ps_set hN hi hx he hs hf
/-! ### readings with names -/
section
variable {X : Cx}
def rLenQ (K : PySem.W.Frag) : List V → Hp → VK → Prop := fun xs H Q => ∃ p ys, xs = [.ref p] ∧ (SqL K H p ys ∨ SqT K H p ys) ∧ Q (.int ys.length) H
theorem cr_len : CallR X (.builtin "len") (rLenQ X.K) := call_len_seq
def rLenZ : List V → Hp → VK → Prop := fun xs H Q => ∃ z : Str, xs = [.str z] ∧ z.length ≤ sizeLine ∧ Q (.int z.length) H
theorem cr_lenZ : CallR X (.builtin "len") rLenZ := call_len_str
def rCount : V → List V → Hp → VK → Prop := fun x xs H Q => ∃ a b, x = .str a ∧ xs = [.str b] ∧ Q (.int (Txt.count a b)) H
theorem mt_cnt : MtR X "str.count" rCount := mt_count
def rStripC : V → List V → Hp → VK → Prop := fun x xs H Q => ∃ a b, x = .str a ∧ xs = [.str b] ∧ a.length ≤ sizeLine ∧ Q (.str (Txt.stripChars a b)) H
theorem mt_stripC : MtR X "str.strip" rStripC := mt_stripChars
def rJoinQ (K : PySem.W.Frag) : V → List V → Hp → VK → Prop := fun x xs H Q => ∃ a p, ∃ ys : List Str, x = .str a ∧ xs = [.ref p] ∧ (SqL K H p (ys.map V.str) ∨ SqT K H p (ys.map V.str)) ∧ (ys.map (·.length)).sum + ys.length * a.length ≤ 16777216 ∧ Q (.str (Txt.join a ys)) H
theorem mt_joinQ : MtR X "str.join" (rJoinQ X.K) := mt_join
def rMin2 : List V → Hp → VK → Prop := fun xs H Q => ∃ i j, xs = [.int i, .int j] ∧ Q (.int (if j < i then j else i)) H
theorem cr_min2 (hc : X.calm = true) : CallR X (.builtin "min") rMin2 := call_min2 hc
theorem cr_max2 (hc : X.calm = true) : CallR X (.builtin "max") rMax2 := call_max2 hc
def rAbs : List V → Hp → VK → Prop := fun xs H Q => ∃ i, xs = [.int i] ∧ Q (.int (if i < 0 then -i else i)) H
theorem cr_abs : CallR X (.builtin "abs") rAbs := call_abs
def rIntB : List V → Hp → VK → Prop := fun xs H Q => (∃ i, xs = [.int i] ∧ Q (.int i) H) ∨ ∃ k, xs = [.bl k] ∧ Q (.int (if k then 1 else 0)) H
theorem cr_int : CallR X (.type "int") rIntB := call_int1
theorem cr_list : CallR X (.type "list") (rListS X.K) := call_list_of
def rMulW : R2 := rI (fun i j => IntMulOk i j) fun i j => .int (i * j)
theorem op_mulA : OpR X (binaryOp .Mult) rMulW := opI fun _ _ _ _ _ _ _ hc q => mul_int q hc
def rIsN : R2 := fun x y H Q => y = .non ∧ Q (.bl (decide (x = .non))) H
theorem op_isNn : OpR X (compareOp .Is) rIsN := op_isN
def rNotN : R2 := fun x y H Q => y = .non ∧ Q (.bl (!decide (x = .non))) H
theorem op_notNn : OpR X (compareOp .IsNot) rNotN := op_notN
end
/-! ### the rules with K told (within a comprehension's block) -/
section
variable {X : Cx} (K : PySem.W.Frag)
theorem ix_listK (h : X.K = K := by rfl) : IxR X (rIxL K) := by subst h; exact ix_list
theorem ix_tupK (h : X.K = K := by rfl) : IxR X (rIxT K) := by subst h; exact ix_tup
theorem cr_isiK (h : X.K = K := by rfl) : CallR X (.builtin "isinstance") (rIsi K) := by subst h; exact call_isi
theorem cr_lenK (h : X.K = K := by rfl) : CallR X (.builtin "len") (rLenQ K) := by subst h; exact cr_len
theorem cr_anyK (hc : X.calm = true) (h : X.K = K := by rfl) : CallR X (.builtin "any") (rAny K) := by subst h; exact cr_any hc
theorem cr_allK (hc : X.calm = true) (h : X.K = K := by rfl) : CallR X (.builtin "all") (rAll K) := by subst h; exact cr_all hc
theorem cr_sumK (hc : X.calm = true) (h : X.K = K := by rfl) : CallR X (.builtin "sum") (rSum K) := by subst h; exact cr_sum hc
theorem cr_minK1 (hc : X.calm = true) (h : X.K = K := by rfl) : CallR X (.builtin "min") (rMin K) := by subst h; exact cr_min hc
theorem cr_listK (h : X.K = K := by rfl) : CallR X (.type "list") (rListS K) := by subst h; exact cr_list
theorem cr_sortedK (h : X.K = K := by rfl) : CallR X (.builtin "sorted") (rSortedI K) := by subst h; exact cr_sortedI
theorem sl_listK (h : X.K = K := by rfl) : SlR X (rSlL K) := by subst h; exact sl_list
theorem op_eqDK (hu : X.A.units + 64 < cLine) (h : X.K = K := by rfl) : OpR X (compareOp .Eq) (rEqD K) := by subst h; exact op_eqD hu
theorem op_neDK (hu : X.A.units + 64 < cLine) (h : X.K = K := by rfl) : OpR X (compareOp .NotEq) (rNeD K) := by subst h; exact op_neD hu
theorem mt_joinK (h : X.K = K := by rfl) : MtR X "str.join" (rJoinQ K) := by subst h; exact mt_joinQ
theorem mt_indexK (h : X.K = K := by rfl) : MtR X "list.index" (rIndex K) := by subst h; exact mt_index
theorem bmK {T id : String} {name : Str} {o e : Expr} {es : List Expr} {apos cpos : Pos} {r : V → List V → Hp → VK → Prop} {to : TE} {t : TA} (pa : PlainAttrs T) (slot : Slot T name id) (hty : typeOf (.builtin id) = pure (.type "method_descriptor")) (hm : MtR X id r) (ho : PE X o to) (ha : PA X (e :: es) t)
    (h : X.K = K := by rfl) (hbase : attributeBase o name X.env (eval o X.env) = eval o X.env := by rfl)
    (hfew : ((backTo cpos (starEach (e :: es) X.env)).all (fun x => !x.1) && (backToKw cpos (keywordEach [] X.env)).all (fun x => x.1.isSome)
      && decide ((e :: es).length + ([] : List Keyword).length + (if ([] : List Keyword).isEmpty then 0 else 1) < 30)) = true := by rfl)
    (hline : (apos.endLine == cpos.line) = true := by rfl) (hs : starEach (e :: es) X.env = (false, eval e X.env) :: starEach es X.env := by rfl) (hplain : (backTo cpos (starEach es X.env)).any (·.1) = false := by rfl) :
    PE X (.Call (.Attribute o name apos) (e :: es) [] cpos) (tBM K T r to t) := by
  subst h
  exact pe_bm pa slot hty hm ho ha hbase hfew hline hs hplain
theorem pi_listK {tg l : Expr} {tl : TE} (hl : PE X l tl) (h : X.K = K := by rfl) : PI X tg l (iList K tl) := by subst h; exact pi_list hl
theorem pi_tupK {tg l : Expr} {tl : TE} (hl : PE X l tl) (h : X.K = K := by rfl) : PI X tg l (iTup K tl) := by subst h; exact pi_tup hl
theorem pi_enumK {e : Expr} {ta : TA} {p pos tpos : Pos} {elts : List Expr} {kk : Nat} (hm : X.mg "enumerate" = none) (ha : PA X [e] ta) (hg : Gl X "enumerate" := by rfl) (h : X.K = K := by rfl) (hs : starEach [e] X.env = [(false, eval e X.env)] := by rfl) :
    PI X (.Tuple elts kk tpos) (.Call (.Name "enumerate" p) [e] [] pos) (iEnum K ta) := by subst h; exact pi_enum hg hm ha hs
theorem pg_tupK {es : List Expr} {k : Nat} {pos : Pos} {t : TGs} {n : Nat} (hc : X.calm = true) (ht : PGs X es t) (h : X.K = K := by rfl) (hn : (assignEach es X.env).length = n := by rfl) (hst : (assignEach es X.env).findIdx? (·.1) = none := by rfl) : PG X (.Tuple es k pos) (gTup K n t) := by
  subst h
  exact pg_tup hc ht hn hst
theorem fldK {e : Expr} {f : Str} {pos : Pos} {ta : TE} (he : PE X e ta) (h : X.K = K := by rfl) (hb : attributeBase e f X.env (eval e X.env) = eval e X.env := by rfl) : PE X (.Attribute e f pos) (tFld K ta f) := by
  subst h
  exact pe_fld he hb
end
/-! ### what is walked -/
/-- plain items -/
structure Wk (J : It) (n : Nat) (H : Hp) (it : Nat → V) : Prop where
  goes : ∀ i H1, Ex H H1 → i < n → J.go i H1
  stops : ∀ H1, Ex H H1 → J.stop n H1
  yields : ∀ i H1 x H2, Ex H H1 → i < n → J.yld i H1 x H2 → H2 = H1 ∧ x = it i
/-- new pairs -/
structure Wk2 (J : It) (n : Nat) (H : Hp) (a b : Nat → V) : Prop where
  goes : ∀ i H1, Ex H H1 → i < n → J.go i H1
  stops : ∀ H1, Ex H H1 → J.stop n H1
  yields : ∀ i H1 x H2, Ex H H1 → i < n → J.yld i H1 x H2 → ∃ T, x = .ref T ∧ H1 T = none ∧ H2 = upd H1 T (.tup [a i, b i])
def EvW (wi : TI) (σ : St) (H Hw : Hp) (n : Nat) (it : Nat → V) : Prop := ∀ H1, Ex H H1 → ∀ R : It → Hp → Prop, (∀ J H2, Ex H1 H2 → Wk J n Hw it → R J H2) → wi σ H1 R
def EvW2 (wi : TI) (σ : St) (H Hw : Hp) (n : Nat) (a b : Nat → V) : Prop := ∀ H1, Ex H H1 → ∀ R : It → Hp → Prop, (∀ J H2, Ex H1 H2 → Wk2 J n Hw a b → R J H2) → wi σ H1 R
section
variable {K : PySem.W.Frag} {σ : St} {H Hw H' : Hp} {ta tb te tl : TE} {t u : TT} {x y z v : V}
theorem ew_list {a : Addr} {xs : List V} (h : Ev tl σ H (.ref a)) (hx : SqL K Hw a xs) (he : Ex Hw H) : EvW (iList K tl) σ H Hw xs.length (fun i => xs.getD i .non) := fun H1 e R r =>
  h H1 e _ fun H2 e2 => ⟨a, rfl, ⟨xs, ex_l ((he.trans e).trans e2) hx⟩, r _ H2 e2
    ⟨fun i H3 e3 hi => ⟨xs, xs[i], ex_l e3 hx, by simp [hi]⟩, fun H3 e3 => ⟨xs, ex_l e3 hx, Nat.le_refl _⟩, fun i H3 x H4 e3 hi y => ⟨y.1, by
      have q := y.2 xs (ex_l e3 hx)
      rw [List.getD_eq_getElem?_getD, q]; rfl⟩⟩⟩
/-- a list told by its places -/
theorem ew_listR {a : Addr} {n : Nat} {it : Nat → V} (h : Ev tl σ H (.ref a)) (hx : SqL K Hw a ((List.range n).map it)) (he : Ex Hw H) : EvW (iList K tl) σ H Hw n it := fun H1 e R r =>
  h H1 e _ fun H2 e2 => ⟨a, rfl, ⟨_, ex_l ((he.trans e).trans e2) hx⟩, r _ H2 e2
    ⟨fun i H3 e3 hi => ⟨_, it i, ex_l e3 hx, by simp [hi]⟩, fun H3 e3 => ⟨_, ex_l e3 hx, by simp⟩, fun i H3 x H4 e3 hi y => ⟨y.1, by
      have q := y.2 _ (ex_l e3 hx)
      rw [List.getElem?_map, List.getElem?_range hi] at q
      exact (Option.some.inj q).symm⟩⟩⟩
theorem ew_rng1 {ta : TA} {n : Nat} (h : EvA ta σ H [.int (n : Int)]) (hn : n ≤ 1000000) : EvW (iRng1 ta) σ H Hw n (fun i => .int (i : Nat)) := fun H1 e R r =>
  h H1 e _ fun H2 e2 => ⟨(n : Int), rfl, by omega, by omega, r _ H2 e2
    ⟨fun i H3 _ hi => (show i < (n : Int).toNat by omega), fun H3 _ => (show (n : Int).toNat ≤ n by omega), fun i H3 x H4 _ hi y => ⟨y.1, by rw [y.2]; simp⟩⟩⟩
theorem ew_rng2 {ta : TA} {lo hi : Int} {n : Nat} (h : EvA ta σ H [.int lo, .int hi]) (hn : n = (hi - lo).toNat) (hb : -1000000 ≤ lo ∧ lo ≤ 1000000 ∧ -1000000 ≤ hi ∧ hi ≤ 1000000) : EvW (iRng2 ta) σ H Hw n (fun i => .int (lo + (i : Nat))) := fun H1 e R r =>
  h H1 e _ fun H2 e2 => ⟨lo, hi, rfl, ⟨by omega, by omega, by omega, by omega⟩, r _ H2 e2
    ⟨fun i H3 _ hi' => (show i < (hi - lo).toNat by omega), fun H3 _ => (show (hi - lo).toNat ≤ n by omega), fun i H3 x H4 _ _ y => ⟨y.1, y.2⟩⟩⟩
theorem ew_rng3 {ta : TA} {lo hi c : Int} {n : Nat} (h : EvA ta σ H [.int lo, .int hi, .int c]) (hn : RgC lo hi c n) : EvW (iRng3 ta) σ H Hw n (fun i => .int (lo + (i : Nat) * c)) := fun H1 e R r =>
  h H1 e _ fun H2 e2 => ⟨lo, hi, c, n, rfl, hn, r _ H2 e2
    ⟨fun i H3 _ hi' => hi', fun H3 _ => Nat.le_refl _, fun i H3 x H4 _ _ y => ⟨y.1, y.2⟩⟩⟩
theorem ew_enumR {ta : TA} {a : Addr} {n : Nat} {it : Nat → V} (h : EvA ta σ H [.ref a]) (hx : SqL K Hw a ((List.range n).map it)) (he : Ex Hw H) : EvW2 (iEnum K ta) σ H Hw n (fun i => .int (i : Nat)) it := fun H1 e R r =>
  h H1 e _ fun H2 e2 => ⟨a, _, rfl, ex_l ((he.trans e).trans e2) hx, r _ H2 e2
    ⟨fun i H3 e3 hi => ⟨_, it i, ex_l e3 hx, by simp [hi]⟩, fun H3 e3 => ⟨_, ex_l e3 hx, by simp⟩, fun i H3 x H4 e3 hi y => by
      obtain ⟨T, z, h1, h2, h3, h4⟩ := y
      have q := h4 _ (ex_l e3 hx)
      rw [List.getElem?_map, List.getElem?_range hi] at q
      have q' : it i = z := Option.some.inj q
      exact ⟨T, h1, h2, by rw [h3, q']⟩⟩⟩
theorem ew_enum {ta : TA} {a : Addr} {xs : List V} (h : EvA ta σ H [.ref a]) (hx : SqL K Hw a xs) (he : Ex Hw H) : EvW2 (iEnum K ta) σ H Hw xs.length (fun i => .int (i : Nat)) (fun i => xs.getD i .non) := fun H1 e R r =>
  h H1 e _ fun H2 e2 => ⟨a, _, rfl, ex_l ((he.trans e).trans e2) hx, r _ H2 e2
    ⟨fun i H3 e3 hi => ⟨xs, xs[i], ex_l e3 hx, by simp [hi]⟩, fun H3 e3 => ⟨xs, ex_l e3 hx, Nat.le_refl _⟩, fun i H3 x H4 e3 hi y => by
      obtain ⟨T, z, h1, h2, h3, h4⟩ := y
      have q := h4 _ (ex_l e3 hx)
      exact ⟨T, h1, h2, by rw [h3, List.getD_eq_getElem?_getD, q]; rfl⟩⟩⟩
theorem ew_enumS {ta : TA} {z : Str} (h : EvA ta σ H [.str z]) : EvW2 (iEnumS ta) σ H Hw z.cps.size (fun i => .int (i : Nat)) (fun i => .str ⟨#[z.cps.getD i 0]⟩) := fun H1 e R r =>
  h H1 e _ fun H2 e2 => ⟨z, rfl, r _ H2 e2
    ⟨fun i H3 e3 hi => hi, fun H3 e3 => rfl, fun i H3 x H4 e3 hi y => by
      obtain ⟨T, c, h1, h2, h3, h4⟩ := y
      refine ⟨T, h1, h2, ?_⟩
      rw [h3]
      have q : z.cps.getD i 0 = c := by rw [Array.getD_eq_getD_getElem?, h4]; rfl
      rw [q]⟩⟩
theorem ew_str {z : Str} (h : Ev te σ H (.str z)) : EvW (iStr te) σ H Hw z.cps.size (fun i => .str ⟨#[z.cps.getD i 0]⟩) := fun H1 e R r =>
  h H1 e _ fun H2 e2 => ⟨z, rfl, r _ H2 e2
    ⟨fun i H3 e3 hi => hi, fun H3 e3 => Nat.le_refl _, fun i H3 x H4 e3 hi y => by
      obtain ⟨h1, c, h2, h3⟩ := y
      refine ⟨h1, ?_⟩
      rw [h3]
      have q : z.cps.getD i 0 = c := by rw [Array.getD_eq_getD_getElem?, h2]; rfl
      rw [q]⟩⟩
theorem EvW2.of_eq {wi : TI} {n m : Nat} {a b a' b' : Nat → V} (h : EvW2 wi σ H Hw n a b) (hn : n = m) (ha : ∀ i, i < n → a i = a' i) (hb : ∀ i, i < n → b i = b' i) : EvW2 wi σ H Hw m a' b' := by
  subst hn
  exact fun H1 e R r => h H1 e R fun J H2 e2 W => r J H2 e2 ⟨W.goes, W.stops, fun i H3 x H4 e3 hi y => by
    obtain ⟨T, h1, h2, h3⟩ := W.yields i H3 x H4 e3 hi y
    exact ⟨T, h1, h2, by rw [h3, ha i hi, hb i hi]⟩⟩
theorem EvW.of_eq {wi : TI} {n m : Nat} {a a' : Nat → V} (h : EvW wi σ H Hw n a) (hn : n = m) (ha : ∀ i, i < n → a i = a' i) : EvW wi σ H Hw m a' := by
  subst hn
  exact fun H1 e R r => h H1 e R fun J H2 e2 W => r J H2 e2 ⟨W.goes, W.stops, fun i H3 x H4 e3 hi y => by
    obtain ⟨h1, h2⟩ := W.yields i H3 x H4 e3 hi y
    exact ⟨h1, by rw [h2, ha i hi]⟩⟩
/-! ### for -/
variable {D : Ends} {tu tz : TS}
theorem s_for {wi : TI} {n j : Nat} {it : Nat → V} (h : EvW wi σ H Hw n it) (Pv : Nat → St → Hp → Prop) (h0 : ∀ H1, Ex H H1 → Pv 0 σ H1) (hx : ∀ i σ' H', i ≤ n → Pv i σ' H' → Ex Hw H')
    (hs : ∀ i σ' H', i < n → Pv i σ' H' → tu { D with nx := Pv (i + 1), ct := Pv (i + 1), bk := D.nx } (σ'.set j (some (it i))) H') (hd : ∀ σ' H', Pv n σ' H' → D.nx σ' H') : tFor wi (gName j) tu D σ H :=
  h H (Ex.refl H) _ fun J H2 e2 W => ⟨fun i m σ' H' => m = n - i ∧ i ≤ n ∧ Pv i σ' H', ⟨n, by simp, Nat.zero_le _, h0 H2 e2⟩, by
    rintro i m σ' H' ⟨rfl, hi, p⟩
    by_cases hlt : i < n
    · refine .inr ⟨W.goes i H' (hx i σ' H' hi p) hlt, Pv (i + 1), fun σ2 H3 p' => ⟨n - (i + 1), by omega, rfl, hlt, p'⟩, fun x H3 y => ?_⟩
      obtain ⟨e, e'⟩ := W.yields i H' x H3 (hx i σ' H' hi p) hlt y
      subst e e'
      exact hs i σ' _ hlt p
    · have e : i = n := by omega
      subst e
      exact .inl ⟨W.stops H' (hx i σ' H' hi p), hd σ' H' p⟩⟩
theorem s_for2 {wi : TI} {n j1 j2 : Nat} {a b : Nat → V} (h : EvW2 wi σ H Hw n a b) (Pv : Nat → St → Hp → Prop) (h0 : ∀ H1, Ex H H1 → Pv 0 σ H1) (hx : ∀ i σ' H', i ≤ n → Pv i σ' H' → Ex Hw H')
    (hs : ∀ i σ' H' T, i < n → Pv i σ' H' → H' T = none → tu { D with nx := Pv (i + 1), ct := Pv (i + 1), bk := D.nx } ((σ'.set j1 (some (a i))).set j2 (some (b i))) (upd H' T (.tup [a i, b i]))) (hd : ∀ σ' H', Pv n σ' H' → D.nx σ' H') :
    tFor wi (gTup K 2 (gCons (gName j1) (gCons (gName j2) gNil))) tu D σ H :=
  h H (Ex.refl H) _ fun J H2 e2 W => ⟨fun i m σ' H' => m = n - i ∧ i ≤ n ∧ Pv i σ' H', ⟨n, by simp, Nat.zero_le _, h0 H2 e2⟩, by
    rintro i m σ' H' ⟨rfl, hi, p⟩
    by_cases hlt : i < n
    · refine .inr ⟨W.goes i H' (hx i σ' H' hi p) hlt, Pv (i + 1), fun σ2 H3 p' => ⟨n - (i + 1), by omega, rfl, hlt, p'⟩, fun x H3 y => ?_⟩
      obtain ⟨T, e, e', e''⟩ := W.yields i H' x H3 (hx i σ' H' hi p) hlt y
      subst e e''
      exact ⟨T, _, rfl, SqT.of upd_same, rfl, a i, [b i], rfl, b i, [], rfl, rfl, hs i σ' H' T hlt p e'⟩
    · have e : i = n := by omega
      subst e
      exact .inl ⟨W.stops H' (hx i σ' H' hi p), hd σ' H' p⟩⟩
theorem q_for {wi : TI} {n j : Nat} {it : Nat → V} (h : EvW wi σ H Hw n it) (Pv : Nat → St → Hp → Prop) (h0 : ∀ H1, Ex H H1 → Pv 0 σ H1) (hx : ∀ i σ' H', i ≤ n → Pv i σ' H' → Ex Hw H')
    (hs : ∀ i σ' H', i < n → Pv i σ' H' → tu { D with nx := Pv (i + 1), ct := Pv (i + 1), bk := tz D } (σ'.set j (some (it i))) H') (hd : ∀ σ' H', Pv n σ' H' → tz D σ' H') : tSeq (tFor wi (gName j) tu) tz D σ H :=
  s_for (D := { D with nx := tz D }) h Pv h0 hx hs hd
theorem q_for2 {wi : TI} {n j1 j2 : Nat} {a b : Nat → V} (h : EvW2 wi σ H Hw n a b) (Pv : Nat → St → Hp → Prop) (h0 : ∀ H1, Ex H H1 → Pv 0 σ H1) (hx : ∀ i σ' H', i ≤ n → Pv i σ' H' → Ex Hw H')
    (hs : ∀ i σ' H' T, i < n → Pv i σ' H' → H' T = none → tu { D with nx := Pv (i + 1), ct := Pv (i + 1), bk := tz D } ((σ'.set j1 (some (a i))).set j2 (some (b i))) (upd H' T (.tup [a i, b i]))) (hd : ∀ σ' H', Pv n σ' H' → tz D σ' H') :
    tSeq (tFor wi (gTup K 2 (gCons (gName j1) (gCons (gName j2) gNil))) tu) tz D σ H :=
  s_for2 (D := { D with nx := tz D }) h Pv h0 hx hs hd
/-! ### comprehensions -/
theorem et_yes : EvT tYes σ H true := fun H1 _ _ q => q H1 (Ex.refl H1)
theorem el_lc {wi : TI} {n j : Nat} {it : Nat → V} {vs : List Nat} (f : Nat → Bool) (g : Nat → V) (h : EvW wi σ H H n it) (hn : n < 50000) (hw : ∀ x, wipe ((wipe σ vs).set j (some x)) vs = wipe σ vs)
    (ht : ∀ i H1, Ex H H1 → i < n → EvT t ((wipe σ vs).set j (some (it i))) H1 (f i)) (he : ∀ i H1, Ex H H1 → i < n → f i = true → Ev te ((wipe σ vs).set j (some (it i))) H1 (g i)) :
    EvL (tLc wi (gName j) t te vs) σ H (given n f g) := fun H0 e Q q => h H0 e _ fun J H1 e1 W Dl hD =>
  ⟨fun i m H' => m = n - i ∧ i ≤ n ∧ Cw H1 f g Dl i H', ⟨n, by simp, Nat.zero_le _, hD, Ex.new hD, upd_same⟩, by
    rintro i m H' ⟨rfl, hi, p⟩
    have ex := (e.trans e1).trans p.2.1
    by_cases hlt : i < n
    · refine .inr ⟨W.goes i H' ex hlt, Cw H1 f g Dl (i + 1), fun H3 p' => ⟨n - (i + 1), by omega, rfl, hlt, p'⟩, fun x H3 y => ?_⟩
      obtain ⟨e2, e3⟩ := W.yields i H' x H3 ex hlt y
      subst e2 e3
      exact ⟨hw _, cw_turn p (by omega) (ht i H1 (e.trans e1) hlt) (fun hf => he i H1 (e.trans e1) hlt hf)⟩
    · have e2 : i = n := by omega
      subst e2
      exact .inl ⟨W.stops H' ex, q Dl H' (fresh_back e1 p.1) (e1.trans p.2.1) p.2.2⟩⟩
theorem el_lc2 {wi : TI} {n j1 j2 : Nat} {a b : Nat → V} {vs : List Nat} (f : Nat → Bool) (g : Nat → V) (h : EvW2 wi σ H H n a b) (hn : n < 50000) (hw : ∀ x y, wipe (((wipe σ vs).set j1 (some x)).set j2 (some y)) vs = wipe σ vs)
    (ht : ∀ i H1, Ex H H1 → i < n → EvT t (((wipe σ vs).set j1 (some (a i))).set j2 (some (b i))) H1 (f i)) (he : ∀ i H1, Ex H H1 → i < n → f i = true → Ev te (((wipe σ vs).set j1 (some (a i))).set j2 (some (b i))) H1 (g i)) :
    EvL (tLc wi (gTup K 2 (gCons (gName j1) (gCons (gName j2) gNil))) t te vs) σ H (given n f g) := fun H0 e Q q => h H0 e _ fun J H1 e1 W Dl hD =>
  ⟨fun i m H' => m = n - i ∧ i ≤ n ∧ Cw H1 f g Dl i H', ⟨n, by simp, Nat.zero_le _, hD, Ex.new hD, upd_same⟩, by
    rintro i m H' ⟨rfl, hi, p⟩
    have ex := (e.trans e1).trans p.2.1
    by_cases hlt : i < n
    · refine .inr ⟨W.goes i H' ex hlt, Cw H1 f g Dl (i + 1), fun H3 p' => ⟨n - (i + 1), by omega, rfl, hlt, p'⟩, fun x H3 y => ?_⟩
      obtain ⟨T, e2, e3, e4⟩ := W.yields i H' x H3 ex hlt y
      subst e2 e4
      have nT : T ≠ Dl := fun z => by rw [z, p.2.2] at e3; cases e3
      have p' : Cw H1 f g Dl i (upd H' T (.tup [a i, b i])) := ⟨p.1, p.2.1.trans (Ex.new e3), by rw [upd_ne nT.symm]; exact p.2.2⟩
      exact ⟨T, _, rfl, SqT.of upd_same, rfl, a i, [b i], rfl, b i, [], rfl, rfl, hw _ _, cw_turn p' (by omega) (ht i H1 (e.trans e1) hlt) (fun hf => he i H1 (e.trans e1) hlt hf)⟩
    · have e2 : i = n := by omega
      subst e2
      exact .inl ⟨W.stops H' ex, q Dl H' (fresh_back e1 p.1) (e1.trans p.2.1) p.2.2⟩⟩
theorem given_all (n : Nat) (g : Nat → V) : given n (fun _ => true) g = (List.range n).map g := by
  unfold given
  rw [List.filter_eq_self.mpr fun _ _ => rfl]
theorem el_is {xs ys : List V} (h : EvL te σ H xs) (e : xs = ys) : EvL te σ H ys := e ▸ h
/-- without a test: told by places -/
theorem el_map {wi : TI} {n j : Nat} {it : Nat → V} {vs : List Nat} (g : Nat → V) (h : EvW wi σ H H n it) (hn : n < 50000) (hw : ∀ x, wipe ((wipe σ vs).set j (some x)) vs = wipe σ vs)
    (he : ∀ i H1, Ex H H1 → i < n → Ev te ((wipe σ vs).set j (some (it i))) H1 (g i)) : EvL (tLc wi (gName j) tYes te vs) σ H ((List.range n).map g) :=
  el_is (el_lc (fun _ => true) g h hn hw (fun _ _ _ _ => et_yes) fun i H1 e hi _ => he i H1 e hi) (given_all n g)
theorem el_map2 {wi : TI} {n j1 j2 : Nat} {a b : Nat → V} {vs : List Nat} (g : Nat → V) (h : EvW2 wi σ H H n a b) (hn : n < 50000) (hw : ∀ x y, wipe (((wipe σ vs).set j1 (some x)).set j2 (some y)) vs = wipe σ vs)
    (he : ∀ i H1, Ex H H1 → i < n → Ev te (((wipe σ vs).set j1 (some (a i))).set j2 (some (b i))) H1 (g i)) : EvL (tLc wi (gTup K 2 (gCons (gName j1) (gCons (gName j2) gNil))) tYes te vs) σ H ((List.range n).map g) :=
  el_is (el_lc2 (fun _ => true) g h hn hw (fun _ _ _ _ => et_yes) fun i H1 e hi _ => he i H1 e hi) (given_all n g)
/-! ### built-ins -/
theorem ev_lenL {p : Addr} {xs : List V} (h : Ev te σ H (.ref p)) (hx : SqL K H p xs) : Ev (tCB (rLenQ K) (tCons te tNil)) σ H (.int (xs.length : Int)) := fun H1 e Q q =>
  h H1 e _ fun H2 e2 => ⟨p, xs, rfl, Or.inl (ex_l (e.trans e2) hx), q H2 e2⟩
theorem ev_lenLR {p : Addr} {n : Nat} {it : Nat → V} (h : Ev te σ H (.ref p)) (hx : SqL K H p ((List.range n).map it)) : Ev (tCB (rLenQ K) (tCons te tNil)) σ H (.int (n : Int)) := ev_is (ev_lenL h hx) (by simp)
theorem ev_lenZ {s : Str} (h : Ev te σ H (.str s)) (hs : s.length ≤ 100000) : Ev (tCB rLenZ (tCons te tNil)) σ H (.int (s.length : Int)) := fun H1 e Q q =>
  h H1 e _ fun H2 e2 => ⟨s, rfl, sz_of hs, q H2 e2⟩
theorem ev_cntS {a b : Str} (h : Ev ta σ H (.str a)) (hb : Ev tb σ H (.str b)) : Ev (tBM K "str" rCount ta (tCons tb tNil)) σ H (.int (Txt.count a b)) := fun H1 e Q q =>
  h H1 e _ fun H2 e2 => ⟨rfl, hb H2 (e.trans e2) _ fun H3 e3 => ⟨a, b, rfl, rfl, q H3 (e2.trans e3)⟩⟩
theorem ev_stripS {a b : Str} (h : Ev ta σ H (.str a)) (hb : Ev tb σ H (.str b)) (hs : a.length ≤ 100000) : Ev (tBM K "str" rStripC ta (tCons tb tNil)) σ H (.str (Txt.stripChars a b)) := fun H1 e Q q =>
  h H1 e _ fun H2 e2 => ⟨rfl, hb H2 (e.trans e2) _ fun H3 e3 => ⟨a, b, rfl, rfl, sz_of hs, q H3 (e2.trans e3)⟩⟩
theorem ev_joinR {a : Str} {n : Nat} {f : Nat → Str} (h : Ev ta σ H (.str a)) (hb : EvL tb σ H ((List.range n).map fun i => V.str (f i))) (hz : (((List.range n).map f).map (·.length)).sum + n * a.length ≤ 16777216) : Ev (tBM K "str" (rJoinQ K) ta (tCons tb tNil)) σ H (.str (Txt.join a ((List.range n).map f))) := fun H1 e Q q =>
  h H1 e _ fun H2 e2 => ⟨rfl, hb H2 (e.trans e2) _ fun p H3 _ e3 hp => ⟨a, p, (List.range n).map f, rfl, rfl, Or.inl (by
    have e4 : ((List.range n).map f).map V.str = (List.range n).map fun i => V.str (f i) := by rw [List.map_map]; rfl
    rw [e4]; exact sq_of hp), by simpa using hz, q H3 (e2.trans e3)⟩⟩
/-- .. of a list that stands -/
theorem ev_joinL {a : Str} {p : Addr} {n : Nat} {f : Nat → Str} (h : Ev ta σ H (.str a)) (hb : Ev tb σ H (.ref p)) (hp : SqL K H p ((List.range n).map fun i => V.str (f i))) (hz : (((List.range n).map f).map (·.length)).sum + n * a.length ≤ 16777216) : Ev (tBM K "str" (rJoinQ K) ta (tCons tb tNil)) σ H (.str (Txt.join a ((List.range n).map f))) := fun H1 e Q q =>
  h H1 e _ fun H2 e2 => ⟨rfl, hb H2 (e.trans e2) _ fun H3 e3 => ⟨a, p, (List.range n).map f, rfl, rfl, Or.inl (by
    have e4 : ((List.range n).map f).map V.str = (List.range n).map fun i => V.str (f i) := by rw [List.map_map]; rfl
    rw [e4]; exact ex_l ((e.trans e2).trans e3) hp), by simpa using hz, q H3 (e2.trans e3)⟩⟩
theorem ev_anyR {n : Nat} {g : Nat → Bool} (h : EvL te σ H ((List.range n).map fun i => V.bl (g i))) : Ev (tCB (rAny K) (tCons te tNil)) σ H (.bl ((List.range n).any g)) := fun H1 e Q q =>
  h H1 e _ fun p H2 _ e2 hp => ⟨p, (List.range n).map g, rfl, by
    have e4 : ((List.range n).map g).map V.bl = (List.range n).map fun i => V.bl (g i) := by rw [List.map_map]; rfl
    rw [e4]; exact sq_of hp, by rw [List.any_map]; exact q H2 e2⟩
theorem ev_allR {n : Nat} {g : Nat → Bool} (h : EvL te σ H ((List.range n).map fun i => V.bl (g i))) : Ev (tCB (rAll K) (tCons te tNil)) σ H (.bl ((List.range n).all g)) := fun H1 e Q q =>
  h H1 e _ fun p H2 _ e2 hp => ⟨p, (List.range n).map g, rfl, by
    have e4 : ((List.range n).map g).map V.bl = (List.range n).map fun i => V.bl (g i) := by rw [List.map_map]; rfl
    rw [e4]; exact sq_of hp, by rw [List.all_map]; exact q H2 e2⟩
theorem sum_sm (f : Nat → Int) : ∀ n : Nat, ((List.range n).map f).sum = sm n f
  | 0 => rfl
  | n + 1 => by
    rw [List.range_succ, List.map_append, List.sum_append, sum_sm f n]
    show sm n f + (f n + 0) = sm n f + f n
    omega
theorem ev_sumR {n : Nat} {g : Nat → Int} (h : EvL te σ H ((List.range n).map fun i => V.int (g i))) : Ev (tCB (rSum K) (tCons te tNil)) σ H (.int (sm n g)) := fun H1 e Q q =>
  h H1 e _ fun p H2 _ e2 hp => ⟨p, (List.range n).map g, rfl, by
    have e4 : ((List.range n).map g).map V.int = (List.range n).map fun i => V.int (g i) := by rw [List.map_map]; rfl
    rw [e4]; exact sq_of hp, by rw [sum_sm]; exact q H2 e2⟩
theorem ev_sumL {p : Addr} {ns : List Int} (h : Ev te σ H (.ref p)) (hx : SqL K H p (ns.map V.int)) : Ev (tCB (rSum K) (tCons te tNil)) σ H (.int ns.sum) := fun H1 e Q q =>
  h H1 e _ fun H2 e2 => ⟨p, ns, rfl, ex_l (e.trans e2) hx, q H2 e2⟩
theorem ev_min2 {i j : Int} (ha : Ev ta σ H (.int i)) (hb : Ev tb σ H (.int j)) : Ev (tCB rMin2 (tCons ta (tCons tb tNil))) σ H (.int (if j < i then j else i)) := fun H1 e Q q =>
  ha H1 e _ fun H2 e2 => hb H2 (e.trans e2) _ fun H3 e3 => ⟨i, j, rfl, q H3 (e2.trans e3)⟩
theorem ev_abs {i : Int} (ha : Ev ta σ H (.int i)) : Ev (tCB rAbs (tCons ta tNil)) σ H (.int (if i < 0 then -i else i)) := fun H1 e Q q =>
  ha H1 e _ fun H2 e2 => ⟨i, rfl, q H2 e2⟩
theorem ev_intB {b : Bool} (ha : Ev ta σ H (.bl b)) : Ev (tCB rIntB (tCons ta tNil)) σ H (.int (if b then 1 else 0)) := fun H1 e Q q =>
  ha H1 e _ fun H2 e2 => Or.inr ⟨b, rfl, q H2 e2⟩
/-! ### isinstance -/
theorem ev_isi {x : V} {T : String} {t : Value} {b : Bool} (ha : Ev ta σ H x) (hc : Ev tb σ H (.ty T)) (ht : ∀ H1, Ex H H1 → TyX K H1 x t) (hk : PySem.W.kitOne K t (.type T) = some b) : Ev (tCB (rIsi K) (tCons ta (tCons tb tNil))) σ H (.bl b) := fun H1 e Q q =>
  ha H1 e _ fun H2 e2 => hc H2 (e.trans e2) _ fun H3 e3 => ⟨x, .ty T, t, .type T, b, rfl, .ty T, ht H3 ((e.trans e2).trans e3), hk, q H3 (e2.trans e3)⟩
end
end AK

namespace AK
open PySem PySem.Spec PySem.Builtin PySem.Builtin.Str PyProof.Rows L2 Evl Ak
/-! ### rows -/
def sgN (b : Bool) : Nat := if b then 120 else 45
def sgS (b : Bool) : Str := ⟨#[sgN b]⟩
def rowS (n : Nat) (f : Nat → Bool) : Str := ⟨((List.range n).map fun j => sgN (f j)).toArray⟩
theorem x_eq : ("x" : Str) = ⟨#[120]⟩ := by decide +kernel
theorem d_eq : ("-" : Str) = ⟨#[45]⟩ := by decide +kernel
theorem e_eq : ("" : Str) = ⟨#[]⟩ := by decide +kernel
theorem sgS_x : sgS true = "x" := x_eq.symm
theorem sgS_d : sgS false = "-" := d_eq.symm
theorem sg_ite (b : Bool) : (if b then ("x" : Str) else "-") = sgS b := by cases b <;> first | exact x_eq | exact d_eq
theorem row_len (n : Nat) (f : Nat → Bool) : (rowS n f).length = n := by simp [rowS, Str.length]
theorem row_size (n : Nat) (f : Nat → Bool) : (rowS n f).cps.size = n := row_len n f
theorem row_congr {n : Nat} {f g : Nat → Bool} (h : ∀ i, i < n → f i = g i) : rowS n f = rowS n g := by
  unfold rowS
  congr 2
  exact List.map_congr_left fun i hi => by rw [h i (List.mem_range.mp hi)]
theorem row_at {n : Nat} {f : Nat → Bool} {j : Nat} (hj : j < n) : atI (rowS n f).cps.toList (j : Int) = some (sgN (f j)) := by
  refine atI_nat ?_
  simp [rowS, hj]
theorem row_get {n : Nat} {f : Nat → Bool} {j : Nat} (hj : j < n) : (rowS n f).cps.getD j 0 = sgN (f j) := by
  have h : j < (rowS n f).cps.size := by rw [row_size]; exact hj
  simp [rowS, hj]
theorem sgS_inj {a b : Bool} : sgS a = sgS b ↔ a = b := by
  cases a <;> cases b <;> simp [sgS, sgN]
theorem row_inj {n : Nat} {f g : Nat → Bool} : rowS n f = rowS n g ↔ ∀ i, i < n → f i = g i := by
  constructor
  · intro h i hi
    have e1 := row_get (f := f) hi
    have e2 := row_get (f := g) hi
    rw [h, e2] at e1
    revert e1
    cases f i <;> cases g i <;> simp [sgN]
  · exact row_congr
/-- comparisons with a sign -/
theorem dec_x (b : Bool) : decide (V.str (sgS b) = V.str "x") = b := by
  have e : (V.str (sgS b) = V.str "x") ↔ b = true := by
    rw [← sgS_x]
    constructor
    · intro h; exact sgS_inj.mp (V.str.inj h)
    · intro h; rw [h]
  cases b <;> simp [e]
theorem dec_d (b : Bool) : decide (V.str (sgS b) = V.str "-") = !b := by
  have e : (V.str (sgS b) = V.str "-") ↔ b = false := by
    rw [← sgS_d]
    constructor
    · intro h; exact sgS_inj.mp (V.str.inj h)
    · intro h; rw [h]
  cases b <;> simp [e]
theorem dec_sg (a b : Bool) : decide (V.str (sgS a) = V.str (sgS b)) = (a == b) := by
  have e : (V.str (sgS a) = V.str (sgS b)) ↔ a = b := ⟨fun h => sgS_inj.mp (V.str.inj h), fun h => by rw [h]⟩
  cases a <;> cases b <;> simp [e]
/-- how many x -/
theorem cnt_row (f : Nat → Bool) : ∀ n : Nat, cnt 120 ((List.range n).map fun j => sgN (f j)) = sm n fun j => b2 (f j)
  | 0 => rfl
  | n + 1 => by
    rw [List.range_succ, List.map_append, cnt_append, cnt_row f n]
    show _ + cnt 120 [sgN (f n)] = sm n _ + b2 (f n)
    congr 1
    rw [cnt_cons, cnt_nil]
    cases f n <;> simp [sgN, b2]
theorem count_row (n : Nat) (f : Nat → Bool) : Txt.count (rowS n f) "x" = sm n fun j => b2 (f j) := by
  rw [x_eq, count_is]
  show cnt 120 (rowS n f).cps.toList = _
  rw [show (rowS n f).cps.toList = (List.range n).map fun j => sgN (f j) from rfl]
  exact cnt_row f n
/-- joined signs -/
theorem join_cat (xs : List Str) : Txt.join "" xs = ⟨(xs.flatMap fun x => x.cps.toList).toArray⟩ := by
  rw [show Txt.join "" xs = Str.join "" xs from PySem.StrLaws.glued_eq_join _ _, e_eq]
  have key : ∀ xs : List Str, Str.join ⟨#[]⟩ xs = ⟨(xs.flatMap fun x => x.cps.toList).toArray⟩ := by
    intro xs
    induction xs with
    | nil => rfl
    | cons x r ih =>
      cases r with
      | nil =>
        show x = _
        obtain ⟨c⟩ := x
        simp
      | cons y r =>
        show x ++ ⟨#[]⟩ ++ Str.join ⟨#[]⟩ (y :: r) = _
        rw [ih]
        obtain ⟨c⟩ := x
        show (⟨c ++ #[] ++ _⟩ : Str) = _
        simp
  exact key xs
theorem join_signs (n : Nat) (f : Nat → Bool) : Txt.join "" ((List.range n).map fun j => sgS (f j)) = rowS n f := by
  rw [join_cat]
  unfold rowS
  congr 2
  rw [List.flatMap_map]
  show List.flatMap (fun a => [sgN (f a)]) (List.range n) = _
  induction (List.range n) with
  | nil => rfl
  | cons a r ih => rw [List.flatMap_cons, ih]; rfl
theorem sum_ones : ∀ n : Nat, (((List.range n).map fun j => ((1 : Nat)))).sum = n
  | 0 => rfl
  | n + 1 => by rw [List.range_succ, List.map_append, List.sum_append, sum_ones n]; rfl
theorem sum_lens {n : Nat} {f : Nat → Str} {m : Nat} (h : ∀ i, i < n → (f i).length = m) : (((List.range n).map f).map (·.length)).sum = n * m := by
  induction n with
  | zero => simp
  | succ n ih =>
    rw [List.range_succ, List.map_append, List.map_append, List.sum_append, ih fun i hi => h i (by omega)]
    simp [h n (by omega)]
    exact (Nat.succ_mul n m).symm
theorem signs_fit {n : Nat} (f : Nat → Bool) (hn : n ≤ 1000) : (((List.range n).map fun j => sgS (f j)).map (·.length)).sum + n * ("" : Str).length ≤ 16777216 := by
  rw [sum_lens (m := 1) fun i _ => rfl]
  have e : ("" : Str).length = 0 := by rw [e_eq]; rfl
  rw [e]; omega
/-- strip of signs leaves nothing just where all are signs -/
theorem strip_iff (z : Str) : Txt.stripChars z "x-" = "" ↔ ∀ j, j < z.length → z.cps.getD j 0 = 120 ∨ z.cps.getD j 0 = 45 := by
  have eg : ∀ c : Nat, ("x-" : Str).cps.contains c = true ↔ c = 120 ∨ c = 45 := by
    intro c
    have e : ("x-" : Str) = ⟨#[120, 45]⟩ := by decide +kernel
    rw [e]; simp
  have ef : ∀ c : Nat, ("x-" : Str).cps.contains c = false ↔ ¬ (c = 120 ∨ c = 45) := by
    intro c
    rw [← eg c]
    cases ("x-" : Str).cps.contains c <;> simp
  unfold Txt.stripChars
  rw [stripBy_eq]
  obtain ⟨a1, a2, a3⟩ := lo_facts ("x-" : Str).cps.contains z
  generalize stripLo ("x-" : Str).cps.contains true z = lo at a1 a2 a3 ⊢
  obtain ⟨b1, b2, b3, b4⟩ := hi_facts ("x-" : Str).cps.contains z lo a1
  generalize stripHi ("x-" : Str).cps.contains true z lo = hi at b1 b2 b3 b4 ⊢
  have hlen : (strSub z lo hi).length = hi - lo := by
    show (z.cps.extract lo hi).size = _
    rw [Array.size_extract]
    have : z.cps.size = z.length := rfl
    omega
  have h0 : strSub z lo hi = "" ↔ hi = lo := by
    rw [e_eq]
    constructor
    · intro h
      rw [h] at hlen
      have : (0 : Nat) = hi - lo := hlen
      omega
    · intro h
      have q : (strSub z lo hi).cps.size = 0 := by
        have : (strSub z lo hi).cps.size = hi - lo := hlen
        omega
      obtain ⟨c, e⟩ : ∃ c, strSub z lo hi = ⟨c⟩ := ⟨_, rfl⟩
      rw [e] at q ⊢
      have q' : c = #[] := Array.eq_empty_of_size_eq_zero q
      rw [q']
  rw [h0]
  constructor
  · intro h j hj
    by_cases c : j < lo
    · exact (eg _).mp (a2 j c)
    · exact (eg _).mp (b3 j (by omega) hj)
  · intro h
    rcases b4 with q | q
    · exact q
    · by_cases e : hi = lo
      · exact e
      · exact absurd (h (hi - 1) (by omega)) ((ef _).mp q)
theorem strip_row (n : Nat) (f : Nat → Bool) : Txt.stripChars (rowS n f) "x-" = "" := by
  rw [strip_iff]
  intro j hj
  rw [row_len] at hj
  rw [row_get hj]
  cases f j
  · exact Or.inr rfl
  · exact Or.inl rfl
end AK

namespace AK
open PySem PySem.Spec PyProof.Rows L2 Evl Ak
/-! ### webs -/
def webV (n : Nat) (k : Rel) : List V := (List.range n).map fun i => V.str (rowS n (k i))
structure WebAt (K : PySem.W.Frag) (H : Hp) (a : Addr) (n : Nat) (k : Rel) : Prop where
  seq : SqL K H a (webV n k)
  w : IsW n k
  le : n ≤ 200
section
variable {K : PySem.W.Frag} {σ : St} {H H0 Hw H' : Hp} {ta tb te tl : TE} {t u : TT} {x y z v : V} {a : Addr} {n : Nat} {k : Rel}
theorem WebAt.ex (h : WebAt K H a n k) (e : Ex H H') : WebAt K H' a n k := ⟨ex_l e h.seq, h.w, h.le⟩
theorem webV_len (n : Nat) (k : Rel) : (webV n k).length = n := by simp [webV]
theorem webV_at {i : Nat} (hi : i < n) : (webV n k)[i]? = some (V.str (rowS n (k i))) := by simp [webV, hi]
theorem webV_congr {k k' : Rel} (h : ∀ i j, i < n → j < n → k i j = k' i j) : webV n k = webV n k' := by
  unfold webV
  exact List.map_congr_left fun i hi => by rw [row_congr fun j hj => h i j (List.mem_range.mp hi) hj]
theorem rv_web {i : Nat} (h : SqL K H0 a (webV n k)) (e : Ex H0 H) (hi : i < n) : RV (rIxL K) (.ref a) (.int (i : Nat)) H (.str (rowS n (k i))) := rv_ixL (ex_l e h) (atI_nat (webV_at hi))
theorem rv_row {f : Nat → Bool} {j : Nat} (hj : j < n) (hn : n ≤ 200) : RV rIxS (.str (rowS n f)) (.int (j : Nat)) H (.str (sgS (f j))) := rv_ixS (by rw [row_len]; omega) (row_at hj)
/-- web[i][j] -/
theorem ev_cell {i j : Nat} {tw ti tj : TE} (h : SqL K H0 a (webV n k)) (e : Ex H0 H) (hn : n ≤ 200) (hw : Ev tw σ H (.ref a)) (h1 : Ev ti σ H (.int (i : Nat))) (h2 : Ev tj σ H (.int (j : Nat))) (hi : i < n) (hj : j < n) :
    Ev (tOp rIxS (tOp (rIxL K) tw ti) tj) σ H (.str (sgS (k i j))) := ev_op (ev_op hw h1 (rv_web h e hi)) h2 (rv_row hj hn)
theorem ev_lenW (h : SqL K H0 a (webV n k)) (e : Ex H0 H) (hw : Ev te σ H (.ref a)) : Ev (tCB (rLenQ K) (tCons te tNil)) σ H (.int (n : Int)) := ev_is (ev_lenL hw (ex_l e h)) (by rw [webV_len])
theorem ew_web (h : SqL K Hw a (webV n k)) (e : Ex Hw H) (hw : Ev te σ H (.ref a)) : EvW (iList K te) σ H Hw n (fun i => V.str (rowS n (k i))) := ew_listR hw h e
theorem ew_enumW {ta : TA} (h : SqL K Hw a (webV n k)) (e : Ex Hw H) (hw : EvA ta σ H [.ref a]) : EvW2 (iEnum K ta) σ H Hw n (fun i => .int (i : Nat)) (fun i => V.str (rowS n (k i))) := ew_enumR hw h e
theorem ew_enumRow {ta : TA} {f : Nat → Bool} (hw : EvA ta σ H [.str (rowS n f)]) : EvW2 (iEnumS ta) σ H Hw n (fun i => .int (i : Nat)) (fun i => V.str (sgS (f i))) :=
  (ew_enumS hw).of_eq (row_size n f) (fun _ _ => rfl) fun i hi => by
    rw [row_size] at hi
    rw [row_get hi]; rfl
theorem ev_cntRow {f : Nat → Bool} (h : Ev ta σ H (.str (rowS n f))) (hb : Ev tb σ H (.str "x")) : Ev (tBM K "str" rCount ta (tCons tb tNil)) σ H (.int (sm n fun j => b2 (f j))) := ev_is (ev_cntS h hb) (by rw [count_row])
theorem ev_lenRow {f : Nat → Bool} (h : Ev te σ H (.str (rowS n f))) (hn : n ≤ 200) : Ev (tCB rLenZ (tCons te tNil)) σ H (.int (n : Int)) := ev_is (ev_lenZ h (by rw [row_len]; omega)) (by rw [row_len])
theorem ev_stripRow {f : Nat → Bool} (h : Ev ta σ H (.str (rowS n f))) (hb : Ev tb σ H (.str "x-")) (hn : n ≤ 200) : Ev (tBM K "str" rStripC ta (tCons tb tNil)) σ H (.str "") := ev_is (ev_stripS h hb (by rw [row_len]; omega)) (by rw [strip_row])
theorem ev_joinRow {f : Nat → Bool} (h : Ev ta σ H (.str "")) (hb : EvL tb σ H ((List.range n).map fun i => V.str (sgS (f i)))) (hn : n ≤ 200) : Ev (tBM K "str" (rJoinQ K) ta (tCons tb tNil)) σ H (.str (rowS n f)) :=
  ev_is (ev_joinR h hb (signs_fit f (by omega))) (by rw [join_signs])
theorem ev_joinRowL {f : Nat → Bool} {p : Addr} (h : Ev ta σ H (.str "")) (hb : Ev tb σ H (.ref p)) (hp : SqL K H0 p ((List.range n).map fun i => V.str (sgS (f i)))) (e : Ex H0 H) (hn : n ≤ 200) : Ev (tBM K "str" (rJoinQ K) ta (tCons tb tNil)) σ H (.str (rowS n f)) :=
  ev_is (ev_joinL h hb (ex_l e hp) (signs_fit f (by omega))) (by rw [join_signs])
/-! comparisons with signs -/
theorem ev_eqX {b : Bool} (h : Ev ta σ H (.str (sgS b))) (hx : Ev tb σ H (.str "x")) : Ev (tOp rEq ta tb) σ H (.bl b) := ev_is (ev_op h hx (rv_eq rfl)) (by rw [dec_x])
theorem ev_eqD {b : Bool} (h : Ev ta σ H (.str (sgS b))) (hx : Ev tb σ H (.str "-")) : Ev (tOp rEq ta tb) σ H (.bl (!b)) := ev_is (ev_op h hx (rv_eq rfl)) (by rw [dec_d])
theorem ev_neX {b : Bool} (h : Ev ta σ H (.str (sgS b))) (hx : Ev tb σ H (.str "x")) : Ev (tOp rNe ta tb) σ H (.bl (!b)) := ev_is (ev_op h hx (rv_ne rfl)) (by rw [dec_x])
theorem ev_neD {b : Bool} (h : Ev ta σ H (.str (sgS b))) (hx : Ev tb σ H (.str "-")) : Ev (tOp rNe ta tb) σ H (.bl b) := ev_is (ev_op h hx (rv_ne rfl)) (by rw [dec_d]; simp)
theorem ev_neSg {b c : Bool} (h : Ev ta σ H (.str (sgS b))) (hx : Ev tb σ H (.str (sgS c))) : Ev (tOp rNe ta tb) σ H (.bl (b != c)) := ev_is (ev_op h hx (rv_ne rfl)) (by rw [dec_sg]; rfl)
/-! comparisons of ints -/
theorem dec_int' {i j : Int} : decide (V.int i = V.int j) = decide (i = j) := by
  by_cases h : i = j
  · subst h; simp
  · have : ¬ V.int i = V.int j := fun e => h (V.int.inj e)
    simp [h]
theorem ev_eqI {i j : Int} (h : Ev ta σ H (.int i)) (hx : Ev tb σ H (.int j)) : Ev (tOp rEq ta tb) σ H (.bl (decide (i = j))) := ev_is (ev_op h hx (rv_eq rfl)) (by rw [dec_int'])
theorem ev_neI {i j : Int} (h : Ev ta σ H (.int i)) (hx : Ev tb σ H (.int j)) : Ev (tOp rNe ta tb) σ H (.bl (!decide (i = j))) := ev_is (ev_op h hx (rv_ne rfl)) (by rw [dec_int'])
theorem ev_isN {x : V} (h : Ev ta σ H x) (hb : Ev tb σ H .non) : Ev (tOp rIsN ta tb) σ H (.bl (decide (x = .non))) := ev_op h hb fun H1 _ _ q => ⟨rfl, q H1 (Ex.refl H1)⟩
theorem ev_mulA {i j : Int} (h : Ev ta σ H (.int i)) (hb : Ev tb σ H (.int j)) (hc : IntMulOk i j) : Ev (tOp rMulW ta tb) σ H (.int (i * j)) := ev_op h hb (rv_I hc)
theorem ev_fdiv {i j : Int} (h : Ev ta σ H (.int i)) (hb : Ev tb σ H (.int j)) (hc : CDiv i j) : Ev (tOp (rI CDiv fun i j => .int (i / j)) ta tb) σ H (.int (i / j)) := ev_op h hb (rv_I hc)
theorem ev_mod {i j : Int} (h : Ev ta σ H (.int i)) (hb : Ev tb σ H (.int j)) (hc : 0 < j) : Ev (tOp (rI (fun _ j => 0 < j) fun i j => .int (i % j)) ta tb) σ H (.int (i % j)) := ev_op h hb (rv_I hc)
/-! truth tests of any kind -/
theorem mul_small {i j : Int} (h : i.natAbs < 2 ^ 64 ∨ j.natAbs < 2 ^ 64) : IntMulOk i j := by
  rcases h with h | h
  · exact .of_left (intBits_le_64 (by omega) (by omega))
  · exact .of_right (intBits_le_64 (by omega) (by omega))
end
/-! ### isinstance, constants -/
theorem gconst {X : Cx} {x : Str} {i : Int} {pos : Pos} (h : ∃ t, X.mg x = some (.int i t)) (hg : Gl X x := by rfl) (hd : (x == ("__debug__" : Str)) = false := by decide) : PE X (.Name x pos) (tC (.int i)) := by
  obtain ⟨t, e⟩ := h
  exact pe_glob hg e ⟨t, rfl⟩ hd
theorem bty {X : Cx} {x : Str} {pos : Pos} (T : String) (hm : X.mg x = none) (hv : bootBuiltins x = some (.type T)) (hg : Gl X x := by rfl) (hn : x ≠ "__name__" := by decide) (hd : (x == ("__debug__" : Str)) = false := by decide) : PE X (.Name x pos) (tC (.ty T)) :=
  pe_bltn (v := .ty T) hg hm hv rfl hn hd
theorem mulok {a b : Int} {m n : Nat} (ha : a.natAbs < 2 ^ m) (hb : b.natAbs < 2 ^ n) (h : m + n ≤ 134217728 := by decide) : IntMulOk a b := by
  have k : ∀ (x : Int) (m : Nat), x.natAbs < 2 ^ m → Builtin.Int.intBits x ≤ m := fun x m hx => by
    unfold Builtin.Int.intBits
    split
    · omega
    · rename_i h0
      have h1 : x.natAbs ≠ 0 := by
        intro e
        apply h0
        first | exact e | (simp; omega) | omega
      have := (Nat.log2_lt h1).mpr hx
      omega
  exact IntMulOk.of_le (k a m ha) (k b n hb) h
theorem mul_bd {a b : Int} {m n : Nat} (ha : a.natAbs < 2 ^ m) (hb : b.natAbs < 2 ^ n) : (a * b).natAbs < 2 ^ (m + n) := by
  rw [Int.natAbs_mul, Nat.pow_add]
  exact Nat.mul_lt_mul'' ha hb
theorem deg_le (n : Nat) (k : Rel) (i : Nat) : deg n k i ≤ n := by
  have h : deg n k i ≤ sm n (fun _ => 1) := sm_le fun _ _ => b2_le _
  rw [sm_const] at h
  omega
section
variable {K : PySem.W.Frag} {σ : St} {H H0 : Hp} {ta tb te : TE} {a : Addr} {xs : List V}
theorem tyx_list (h : SqL K H a xs) : TyX K H (.ref a) (.type "list") := by
  rcases h with (h | ⟨o, h⟩) | ⟨o, its, n, h1, h2, _⟩
  · exact .base (.lst h)
  · exact .base (.frz h)
  · exact .kList h1 h2
theorem ev_isList (ha : Ev ta σ H (.ref a)) (h : SqL K H0 a xs) (e : Ex H0 H) : Ev (tCB (rIsi K) (tCons ta (tCons (tC (.ty "list")) tNil))) σ H (.bl true) :=
  ev_isi ha ev_c (fun H1 e1 => tyx_list (ex_l (e.trans e1) h)) (kit_ty (by decide +kernel))
theorem ev_isInt {i : Int} (ha : Ev ta σ H (.int i)) : Ev (tCB (rIsi K) (tCons ta (tCons (tC (.ty "int")) tNil))) σ H (.bl true) :=
  ev_isi ha ev_c (fun H1 e1 => .base (.int i)) (kit_ty (by decide +kernel))
theorem ev_isBoolI {i : Int} (ha : Ev ta σ H (.int i)) : Ev (tCB (rIsi K) (tCons ta (tCons (tC (.ty "bool")) tNil))) σ H (.bl false) :=
  ev_isi ha ev_c (fun H1 e1 => .base (.int i)) (kit_ty (by decide +kernel))
theorem ev_isBool {b : Bool} (ha : Ev ta σ H (.bl b)) : Ev (tCB (rIsi K) (tCons ta (tCons (tC (.ty "bool")) tNil))) σ H (.bl true) :=
  ev_isi ha ev_c (fun H1 e1 => .base (.bl b)) (kit_ty (by decide +kernel))
theorem ev_isStr {z : Str} (ha : Ev ta σ H (.str z)) : Ev (tCB (rIsi K) (tCons ta (tCons (tC (.ty "str")) tNil))) σ H (.bl true) :=
  ev_isi ha ev_c (fun H1 e1 => .base (.str z)) (kit_ty (by decide +kernel))
end
/-! ### what a call gives -/
section
variable {K : PySem.W.Frag} {σ : St} {H : Hp} {ta : TA} {vs : List V} {sp : Sp} {E : XK} {v : V}
theorem ev_hc (h : EvA ta σ H vs) (hs : SpV sp vs H v) : Ev (tCall sp [] E ta) σ H v := ev_call h (by rw [List.append_nil]; exact hs)
theorem el_hc {xs : List V} (h : EvA ta σ H vs) (hs : SpL sp vs H xs) : EvL (tCall sp [] E ta) σ H xs := el_call h (by rw [List.append_nil]; exact hs)
end
theorem bl_false {b : Bool} (h : b = false) {A : Prop} (hb : b = true) : A := by rw [h] at hb; cases hb
theorem bl_true {b : Bool} (h : b = true) {A : Prop} (hb : b = false) : A := by rw [h] at hb; cases hb
end AK

namespace AK
open PySem PySem.Spec PyProof.Rows L2 Evl Ak
/-! ### lists of new lists -/
/-- at l stands a list of the new lists at ps, what each holds told by g; H0 knows none of them -/
structure RowsP (H0 H : Hp) (l : Addr) (ps : List Addr) (g : Nat → List V) : Prop where
  nd : ps.Nodup
  nl : l ∉ ps
  fl : H0 l = none
  fp : ∀ p ∈ ps, H0 p = none
  hl : H l = some (.lst (ps.map V.ref))
  hp : ∀ i p, ps[i]? = some p → H p = some (.lst (g i))
section
variable {H0 H H' : Hp} {l p : Addr} {ps : List Addr} {g g' : Nat → List V} {xs : List V}
theorem RowsP.ex (r : RowsP H0 H l ps g) (e : Ex H H') : RowsP H0 H' l ps g := ⟨r.nd, r.nl, r.fl, r.fp, e _ _ r.hl, fun i q h => e _ _ (r.hp i q h)⟩
theorem RowsP.low {Hb : Hp} (r : RowsP H0 H l ps g) (e : Ex Hb H0) : RowsP Hb H l ps g := ⟨r.nd, r.nl, fresh_back e r.fl, fun p hp => fresh_back e (r.fp p hp), r.hl, r.hp⟩
theorem RowsP.congr (r : RowsP H0 H l ps g) (h : ∀ i, i < ps.length → g i = g' i) : RowsP H0 H l ps g' :=
  ⟨r.nd, r.nl, r.fl, r.fp, r.hl, fun i q e => by rw [← h i (List.getElem?_eq_some_iff.mp e).1]; exact r.hp i q e⟩
theorem RowsP.nil (h0 : H0 l = none) (h : H l = some (.lst [])) : RowsP H0 H l [] g :=
  ⟨List.nodup_nil, by simp, h0, by simp, h, fun i q e => by simp at e⟩
/-- another object changes -/
theorem RowsP.keep {o : HO} (r : RowsP H0 H l ps g) (h1 : p ≠ l) (h2 : p ∉ ps) : RowsP H0 (upd H p o) l ps g :=
  ⟨r.nd, r.nl, r.fl, r.fp, by rw [upd_ne h1.symm]; exact r.hl, fun i q e => by
    have : q ≠ p := fun z => h2 (z ▸ List.mem_of_getElem? e)
    rw [upd_ne this]; exact r.hp i q e⟩
theorem RowsP.ne (r : RowsP H0 H l ps g) (h : H p = none) : p ≠ l ∧ p ∉ ps := by
  refine ⟨fun z => ?_, fun z => ?_⟩
  · rw [z, r.hl] at h; cases h
  · obtain ⟨i, hi⟩ := List.getElem?_of_mem z
    rw [r.hp i p hi] at h; cases h
theorem RowsP.app (r : RowsP H0 H l ps g) (h0 : H0 p = none) (h1 : p ≠ l) (h2 : p ∉ ps) (hp : H p = some (.lst xs)) :
    RowsP H0 (upd H l (.lst (ps.map V.ref ++ [.ref p]))) l (ps ++ [p]) (fun i => if i < ps.length then g i else xs) := by
  refine ⟨?_, ?_, r.fl, ?_, ?_, ?_⟩
  · rw [List.nodup_append]
    exact ⟨r.nd, by simp, fun a ha b hb => by
      have : b = p := by simpa using hb
      subst this
      exact fun z => h2 (z ▸ ha)⟩
  · rw [List.mem_append, List.mem_singleton]
    rintro (z | z)
    · exact r.nl z
    · exact h1 z.symm
  · intro q hq
    rcases List.mem_append.mp hq with z | z
    · exact r.fp q z
    · rw [List.mem_singleton.mp z]; exact h0
  · rw [upd_same, List.map_append]; rfl
  · intro i q e
    by_cases hi : i < ps.length
    · rw [List.getElem?_append_left hi] at e
      have : q ≠ l := fun z => r.nl (z ▸ List.mem_of_getElem? e)
      simp only [if_pos hi]
      rw [upd_ne this]; exact r.hp i q e
    · rw [List.getElem?_append_right (by omega)] at e
      have hi2 : i - ps.length = 0 := by
        have := (List.getElem?_eq_some_iff.mp e).1
        simp at this; omega
      rw [hi2] at e
      have : p = q := by simpa using e
      subst this
      simp only [if_neg hi]
      rw [upd_ne h1]; exact hp
theorem RowsP.set (r : RowsP H0 H l ps g) {i : Nat} (h : ps[i]? = some p) (ys : List V) : RowsP H0 (upd H p (.lst ys)) l ps (fun a => if a = i then ys else g a) := by
  have hpl : p ≠ l := fun z => r.nl (z ▸ List.mem_of_getElem? h)
  refine ⟨r.nd, r.nl, r.fl, r.fp, by rw [upd_ne hpl.symm]; exact r.hl, fun j q e => ?_⟩
  by_cases hj : j = i
  · subst hj
    have : p = q := Option.some.inj (h.symm.trans e)
    subst this
    rw [upd_same, if_pos rfl]
  · have : q ≠ p := fun z => hj (nd_ix r.nd e (z ▸ h))
    rw [upd_ne this, if_neg hj]; exact r.hp j q e
end
section
variable {K : PySem.W.Frag} {σ : St} {H H0 H' : Hp} {ta tb tc te tl : TE} {tz : TS} {D : Ends} {l : Addr} {ps : List Addr} {g : Nat → List V}
/-- xs[i][j] = e, xs a list of new lists -/
theorem q_setRow {i j : Nat} {v : V} (r : RowsP H0 H l ps g) (hv : Ev te σ H v) (hl : Ev ta σ H (.ref l)) (hi : Ev tb σ H (.int (i : Nat))) (hj : Ev tc σ H (.int (j : Nat))) (hi' : i < ps.length) (hj' : j < (g i).length)
    (k : ∀ H1, Ex H H1 → ∀ p, ps[i]? = some p → H0 p = none → RowsP H0 (upd H1 p (.lst ((g i).set j v))) l ps (fun a => if a = i then (g i).set j v else g a) → tz D σ (upd H1 p (.lst ((g i).set j v)))) :
    tSeq (tAsg te (gSub (tOp (rIxL K) ta tb) tc rSetL)) tz D σ H := by
  obtain ⟨p, hp⟩ : ∃ p, ps[i]? = some p := ⟨ps[i], by simp [hi']⟩
  have h1 : atI (ps.map V.ref) (i : Int) = some (V.ref p) := atI_nat (by rw [List.getElem?_map, hp]; rfl)
  refine q_setL (xs := g i) (j := j) (r.hp i p hp) hv (ev_op hl hi (rv_ixL (SqL.of r.hl) h1)) hj hj' fun H1 e1 => ?_
  exact k H1 e1 p hp (r.fp p (List.mem_of_getElem? hp)) ((r.ex e1).set hp _)
theorem s_setRow {i j : Nat} {v : V} (r : RowsP H0 H l ps g) (hv : Ev te σ H v) (hl : Ev ta σ H (.ref l)) (hi : Ev tb σ H (.int (i : Nat))) (hj : Ev tc σ H (.int (j : Nat))) (hi' : i < ps.length) (hj' : j < (g i).length)
    (k : ∀ H1, Ex H H1 → ∀ p, ps[i]? = some p → H0 p = none → RowsP H0 (upd H1 p (.lst ((g i).set j v))) l ps (fun a => if a = i then (g i).set j v else g a) → D.nx σ (upd H1 p (.lst ((g i).set j v)))) :
    tAsg te (gSub (tOp (rIxL K) ta tb) tc rSetL) D σ H := by
  obtain ⟨p, hp⟩ : ∃ p, ps[i]? = some p := ⟨ps[i], by simp [hi']⟩
  have h1 : atI (ps.map V.ref) (i : Int) = some (V.ref p) := atI_nat (by rw [List.getElem?_map, hp]; rfl)
  refine s_setL (xs := g i) (j := j) (r.hp i p hp) hv (ev_op hl hi (rv_ixL (SqL.of r.hl) h1)) hj hj' fun H1 e1 => ?_
  exact k H1 e1 p hp (r.fp p (List.mem_of_getElem? hp)) ((r.ex e1).set hp _)
end
/-! ### signs in rows of new lists -/
def sgRow (n : Nat) (f : Nat → Bool) : List V := (List.range n).map fun j => V.str (sgS (f j))
theorem sgRow_len (n : Nat) (f : Nat → Bool) : (sgRow n f).length = n := by simp [sgRow]
theorem sgRow_set {n : Nat} {f : Nat → Bool} (j : Nat) (b : Bool) : (sgRow n f).set j (V.str (sgS b)) = sgRow n (fun a => if a = j then b else f a) := by
  apply List.ext_getElem?
  intro i
  unfold sgRow
  rw [List.getElem?_set]
  by_cases hi : i < n
  · by_cases hj : j = i
    · subst hj; simp [hi]
    · rw [if_neg hj]
      have : ¬ i = j := fun z => hj z.symm
      simp [hi, this]
  · simp [hi]; omega
theorem sgRow_congr {n : Nat} {f f' : Nat → Bool} (h : ∀ i, i < n → f i = f' i) : sgRow n f = sgRow n f' :=
  List.map_congr_left fun i hi => by rw [h i (List.mem_range.mp hi)]
theorem rep_row (n : Nat) : (List.replicate (n : Int).toNat [V.str "-"]).flatten = sgRow n fun _ => false := by
  have e : (n : Int).toNat = n := by omega
  rw [e]
  unfold sgRow
  induction n with
  | zero => rfl
  | succ n ih =>
    rw [List.replicate_succ', List.flatten_append, ih (by omega), List.range_succ, List.map_append]
    have : V.str (sgS false) = V.str "-" := by rw [sgS_d]
    simp [this]
section
variable {K : PySem.W.Frag} {σ : St} {H H0 H' : Hp} {ta tb te tl : TE} {tz : TS} {D : Ends}
theorem el_repR {n : Nat} (h : EvL ta σ H [V.str "-"]) (hb : ∀ H1, Ex H H1 → Ev tb σ H1 (.int (n : Nat))) (hn : n ≤ 100000) : EvL (tOp rRep ta tb) σ H (sgRow n fun _ => false) := fun H1 e Q q =>
  h H1 e _ fun p H2 hp0 e2 hp => hb H2 (e.trans e2) H2 (Ex.refl _) _ fun H3 e3 => ⟨p, n, _, rfl, rfl, e3 _ _ hp, by omega, by omega, by simp; exact sz_of hn, fun r hr => by
    rw [rep_row]
    exact q r _ (fresh_back (e2.trans e3) hr) ((e2.trans e3).trans (Ex.new hr)) upd_same⟩
/-- a comprehension whose elements are new lists -/
def EvR (te : TE) (σ : St) (H : Hp) (n : Nat) (g : Nat → List V) : Prop := ∀ H1, Ex H H1 → ∀ Q : VK, (∀ l ps H2, Ex H1 H2 → ps.length = n → RowsP H1 H2 l ps g → Q (.ref l) H2) → te σ H1 Q
theorem er_lc {wi : TI} {n j : Nat} {it : Nat → V} {vs : List Nat} (g : Nat → List V) (h : EvW wi σ H H n it) (hn : n < 50000) (hw : ∀ x, wipe ((wipe σ vs).set j (some x)) vs = wipe σ vs)
    (he : ∀ i H1, Ex H H1 → i < n → EvL te ((wipe σ vs).set j (some (it i))) H1 (g i)) : EvR (tLc wi (gName j) tYes te vs) σ H n g := fun H0 e Q q => h H0 e _ fun J H1 e1 W Dl hD =>
  ⟨fun i m H' => m = n - i ∧ i ≤ n ∧ Ex H1 H' ∧ ∃ ps, ps.length = i ∧ RowsP H1 H' Dl ps g, ⟨n, by simp, Nat.zero_le _, Ex.new hD, [], rfl, .nil hD upd_same⟩, by
    rintro i m H' ⟨rfl, hi, ex, ps, hps, r⟩
    have ex' := (e.trans e1).trans ex
    by_cases hlt : i < n
    · refine .inr ⟨W.goes i H' ex' hlt, fun H3 => i + 1 ≤ n ∧ Ex H1 H3 ∧ ∃ ps, ps.length = i + 1 ∧ RowsP H1 H3 Dl ps g, fun H3 p' => ⟨n - (i + 1), by omega, rfl, p'⟩, fun x H3 y => ?_⟩
      obtain ⟨e2, e3⟩ := W.yields i H' x H3 ex' hlt y
      subst e2 e3
      refine ⟨hw _, ?_⟩
      show te _ _ _
      refine he i H1 (e.trans e1) hlt H3 ex _ fun p H4 hp e4 hl4 => ?_
      have r4 := r.ex e4
      obtain ⟨n1, n2⟩ := r.ne hp
      refine ⟨_, r4.hl, by simp [hps]; exact sz_lt (by omega), hlt, Ex.mut (ex.trans e4) r.fl, ps ++ [p], by simp [hps], ?_⟩
      refine (r4.app (fresh_back ex hp) n1 n2 hl4).congr fun a ha => ?_
      by_cases c : a < ps.length
      · rw [if_pos c]
      · rw [if_neg c]
        have : a = i := by simp at ha; omega
        rw [this]
    · have e2 : i = n := by omega
      subst e2
      exact .inl ⟨W.stops H' ex', q Dl ps H' (e1.trans ex) hps (r.low e1)⟩⟩
theorem q_asgR {n i : Nat} {g : Nat → List V} (h : EvR te σ H n g) (k : ∀ l ps H1, Ex H H1 → ps.length = n → RowsP H H1 l ps g → tz D (σ.set i (some (.ref l))) H1) : tSeq (tAsg te (gName i)) tz D σ H :=
  h H (Ex.refl H) _ fun l ps H1 e hps r => k l ps H1 e hps r
/-- ["".join(row) for row in rows] -/
theorem el_joinRows {n j : Nat} {vs : List Nat} {l : Addr} {ps : List Addr} {k : Rel} (r : RowsP H0 H l ps (fun i => sgRow n (k i))) (hps : ps.length = n) (hn : n ≤ 200) (hl : Ev tl σ H (.ref l)) (hw : ∀ x, wipe ((wipe σ vs).set j (some x)) vs = wipe σ vs) (hj : ∀ x, ((wipe σ vs).set j (some x))[j]? = some (some x)) :
    EvL (tLc (iList K tl) (gName j) tYes (tBM K "str" (rJoinQ K) (tC (.str "")) (tCons (tVar j) tNil)) vs) σ H (webV n k) := by
  have e1 := el_map (wi := iList K tl) (te := tBM K "str" (rJoinQ K) (tC (.str "")) (tCons (tVar j) tNil)) (j := j) (vs := vs) (fun i => V.str (rowS n (k i))) (ew_list (K := K) hl (SqL.of r.hl) (Ex.refl _)) (by simp; omega) hw fun i H1 e1 hi => by
    have hi' : i < ps.length := by simpa using hi
    have e2 : (ps.map V.ref).getD i .non = V.ref ps[i] := by simp [hi']
    rw [e2]
    exact ev_joinRowL ev_c (ev_var (hj _)) (SqL.of (r.hp i ps[i] (by simp [hi']))) e1 hn
  rw [List.length_map, hps] at e1
  exact e1
end
end AK

/-! Ak: the web with the fewest; the law's own formula. Plain Lean. -/
namespace Ak
theorem sm_split (f : Nat → Int) (a : Nat) : ∀ b : Nat, sm (a + b) f = sm a f + sm b (fun j => f (a + j))
  | 0 => by simp [sm]
  | b + 1 => by
    show sm (a + b) f + f (a + b) = sm a f + (sm b (fun j => f (a + j)) + f (a + b))
    rw [sm_split f a b]; omega
/-- places from a on, below b -/
theorem sm_between (a b : Nat) : ∀ n : Nat, sm n (fun j => b2 (decide (a ≤ j ∧ j < b))) = (min n b - min n a : Nat)
  | 0 => by simp [sm]
  | n + 1 => by
    show sm n _ + b2 (decide (a ≤ n ∧ n < b)) = _
    rw [sm_between a b n]
    by_cases h : a ≤ n ∧ n < b
    · rw [decide_eq_true h]
      show _ + 1 = _
      omega
    · rw [decide_eq_false h]
      show _ + 0 = _
      omega
theorem sm_is (p : Nat) (n : Nat) (h : p < n) : sm n (fun j => b2 (decide (j = p))) = 1 := by
  have e := sm_between p (p + 1) n
  have e2 : sm n (fun j => b2 (decide (j = p))) = sm n (fun j => b2 (decide (p ≤ j ∧ j < p + 1))) := sm_congr fun j _ => by
    congr 1
    exact decide_eq_decide.mpr ⟨fun h => by omega, fun h => by omega⟩
  rw [e2, e]; omega
/-- a turn of the places -/
theorem sm_rot (F : Nat → Int) (n i : Nat) (hi : i ≤ n) : sm n (fun j => if j < i then F (j + n - i) else F (j - i)) = sm n F := by
  have e1 := sm_split (fun j => if j < i then F (j + n - i) else F (j - i)) i (n - i)
  have e2 := sm_split F (n - i) i
  rw [show i + (n - i) = n by omega] at e1
  rw [show n - i + i = n by omega] at e2
  rw [e1, e2]
  have a1 : sm i (fun j => if j < i then F (j + n - i) else F (j - i)) = sm i (fun j => F (n - i + j)) := sm_congr fun j hj => by
    rw [if_pos hj]; congr 1; omega
  have a2 : sm (n - i) (fun j => (fun j => if j < i then F (j + n - i) else F (j - i)) (i + j)) = sm (n - i) F := sm_congr fun j hj => by
    show (if i + j < i then _ else F (i + j - i)) = F j
    rw [if_neg (by omega)]; congr 1; omega
  rw [a1, a2]; omega
/-- how far apart in the ring -/
def apart (n : Int) (i j : Int) : Int := if (j - i) % n < (i - j) % n then (j - i) % n else (i - j) % n
/-- known in the ring of n, to near -/
def ringK (n near : Int) (i j : Nat) : Bool := decide (0 < apart n i j) && decide (apart n i j ≤ near)
def evenK (half : Int) (i j : Nat) : Bool := decide ((i : Int) / half = (j : Int) / half) && !decide ((i : Int) = (j : Int))
/-- the pairs of the last loop, s of them -/
def mA (n s : Nat) : Nat := if s = 0 then 0 else n - s
def mB (n s : Nat) : Nat := n / 2 - s
def mtS (n : Nat) : Nat → Rel
  | 0 => fun _ _ => false
  | s + 1 => fun i j => mtS n s i j || (decide (i = mA n s) && decide (j = mB n s)) || (decide (i = mB n s) && decide (j = mA n s))
def wof0 (n : Nat) : Rel := fun i j => if (n : Int) % 2 = 0 then evenK ((n : Int) / 2) i j else ringK n ((n : Int) / 4) i j
def wofK (n : Nat) : Rel := fun i j => wof0 n i j || (decide ((n : Int) % 4 = 3) && mtS n (n / 2) i j)
theorem mtS_iff (n : Nat) (i j : Nat) : ∀ s, mtS n s i j = true ↔ ∃ t, t < s ∧ ((i = mA n t ∧ j = mB n t) ∨ (i = mB n t ∧ j = mA n t))
  | 0 => by simp [mtS]
  | s + 1 => by
    have ih := mtS_iff n i j s
    show (mtS n s i j || (decide (i = mA n s) && decide (j = mB n s)) || (decide (i = mB n s) && decide (j = mA n s))) = true ↔ _
    simp only [Bool.or_eq_true, Bool.and_eq_true, decide_eq_true_eq, ih]
    constructor
    · rintro ((⟨t, h, q⟩ | q) | q)
      · exact ⟨t, by omega, q⟩
      · exact ⟨s, by omega, .inl q⟩
      · exact ⟨s, by omega, .inr q⟩
    · rintro ⟨t, h, q⟩
      by_cases e : t = s
      · subst e
        rcases q with q | q
        · exact .inl (.inr q)
        · exact .inr q
      · exact .inl (.inl ⟨t, by omega, q⟩)
theorem apart_comm (n i j : Int) : apart n i j = apart n j i := by
  unfold apart
  split <;> split <;> omega
theorem ring_sym (n near : Int) (i j : Nat) : ringK n near i j = ringK n near j i := by
  unfold ringK
  rw [apart_comm]
theorem ring_irr (n near : Int) (i : Nat) : ringK n near i i = false := by
  have e : apart n i i = 0 := by
    unfold apart
    rw [Int.sub_self, Int.zero_emod]; rfl
  unfold ringK
  rw [e]; rfl
theorem even_sym (h : Int) (i j : Nat) : evenK h i j = evenK h j i := by
  unfold evenK
  have e1 : decide ((i : Int) / h = (j : Int) / h) = decide ((j : Int) / h = (i : Int) / h) := decide_eq_decide.mpr eq_comm
  have e2 : decide ((i : Int) = (j : Int)) = decide ((j : Int) = (i : Int)) := decide_eq_decide.mpr eq_comm
  rw [e1, e2]
theorem even_irr (h : Int) (i : Nat) : evenK h i i = false := by unfold evenK; simp
theorem mtS_sym (n s i j : Nat) : mtS n s i j = mtS n s j i := by
  have h1 := mtS_iff n i j s
  have h2 := mtS_iff n j i s
  have e : mtS n s i j = true ↔ mtS n s j i = true := by
    rw [h1, h2]
    exact ⟨fun ⟨t, a, b⟩ => ⟨t, a, b.symm.imp (fun q => ⟨q.2, q.1⟩) (fun q => ⟨q.2, q.1⟩)⟩, fun ⟨t, a, b⟩ => ⟨t, a, b.symm.imp (fun q => ⟨q.2, q.1⟩) (fun q => ⟨q.2, q.1⟩)⟩⟩
  cases x : mtS n s i j <;> cases y : mtS n s j i <;> simp [x, y] at e ⊢
theorem mt_part {n : Nat} (h4 : n % 4 = 3) {i j : Nat} (hi : i < n) : mtS n (n / 2) i j = true ↔ i ≠ n / 2 + 1 ∧ j = (if i = 0 then n / 2 else if i = n / 2 then 0 else if i < n / 2 then i + n / 2 + 1 else i - (n / 2 + 1)) := by
  rw [mtS_iff]
  have hh : n = 2 * (n / 2) + 1 := by omega
  generalize n / 2 = h at hh ⊢
  unfold mA mB
  have eh : n / 2 = h := by omega
  rw [eh]
  constructor
  · rintro ⟨t, ht, ⟨e1, e2⟩ | ⟨e1, e2⟩⟩
    · split at e1
      · subst e1; constructor
        · omega
        · rw [if_pos rfl]; omega
      · constructor
        · omega
        · rw [if_neg (by omega), if_neg (by omega), if_neg (by omega)]; omega
    · split at e2
      · subst e2; constructor
        · omega
        · rw [if_neg (by omega), if_pos (by omega)]
      · constructor
        · omega
        · rw [if_neg (by omega), if_neg (by omega), if_pos (by omega)]; omega
  · rintro ⟨h1, e⟩
    split at e
    · exact ⟨0, by omega, .inl ⟨by rw [if_pos rfl]; omega, by omega⟩⟩
    · split at e
      · exact ⟨0, by omega, .inr ⟨by omega, by rw [if_pos rfl]; omega⟩⟩
      · split at e
        · exact ⟨h - i, by omega, .inr ⟨by omega, by rw [if_neg (by omega)]; omega⟩⟩
        · exact ⟨n - i, by omega, .inl ⟨by rw [if_neg (by omega)]; omega, by omega⟩⟩
theorem mt_irr {n : Nat} (h4 : n % 4 = 3) {i : Nat} (hi : i < n) : mtS n (n / 2) i i = false := by
  cases e : mtS n (n / 2) i i with
  | false => rfl
  | true =>
    obtain ⟨h1, h2⟩ := (mt_part h4 hi).mp e
    split at h2
    · omega
    · split at h2
      · omega
      · split at h2 <;> omega
theorem wofK_w (n : Nat) : IsW n (wofK n) := by
  refine ⟨fun i j hi hj => ?_, fun i hi => ?_⟩
  · show (wof0 n i j || _) = (wof0 n j i || _)
    rw [mtS_sym]
    unfold wof0
    split
    · rw [even_sym]
    · rw [ring_sym]
  · show (wof0 n i i || (decide ((n : Int) % 4 = 3) && mtS n (n / 2) i i)) = false
    have e0 : wof0 n i i = false := by
      unfold wof0
      split
      · exact even_irr _ _
      · exact ring_irr _ _ _
    rw [e0]
    by_cases h : (n : Int) % 4 = 3
    · rw [mt_irr (by omega) hi]; simp
    · simp [h]
theorem apart_at {n i j : Nat} (hi : i < n) (hj : j < n) : apart n i j = if j < i then (if (j + n - i : Nat) < (i - j : Nat) then ((j + n - i : Nat) : Int) else ((i - j : Nat) : Int)) else (if (j - i : Nat) = 0 then 0 else if (j - i : Nat) < (n - (j - i) : Nat) then ((j - i : Nat) : Int) else ((n - (j - i) : Nat) : Int)) := by
  unfold apart
  by_cases h : j < i
  · rw [if_pos h]
    have e1 : ((j : Int) - i) % n = ((j + n - i : Nat) : Int) := by
      have : (j : Int) - i = ((j + n - i : Nat) : Int) + n * (-1) := by omega
      rw [this, Int.add_mul_emod_self_left]
      exact Int.emod_eq_of_lt (by omega) (by omega)
    have e2 : ((i : Int) - j) % n = ((i - j : Nat) : Int) := by
      have : (i : Int) - j = ((i - j : Nat) : Int) := by omega
      rw [this]
      exact Int.emod_eq_of_lt (by omega) (by omega)
    rw [e1, e2]
    split <;> split <;> omega
  · rw [if_neg h]
    have e1 : ((j : Int) - i) % n = ((j - i : Nat) : Int) := by
      have : (j : Int) - i = ((j - i : Nat) : Int) := by omega
      rw [this]
      exact Int.emod_eq_of_lt (by omega) (by omega)
    by_cases h0 : j - i = 0
    · rw [if_pos h0]
      have : (i : Int) - j = 0 := by omega
      have : (j : Int) - i = 0 := by omega
      simp [*]
    · rw [if_neg h0]
      have e2 : ((i : Int) - j) % n = ((n - (j - i) : Nat) : Int) := by
        have : (i : Int) - j = ((n - (j - i) : Nat) : Int) + n * (-1) := by omega
        rw [this, Int.add_mul_emod_self_left]
        exact Int.emod_eq_of_lt (by omega) (by omega)
      rw [e1, e2]
      split <;> split <;> omega
theorem ring_deg {n near i : Nat} (hi : i < n) (hn : 2 * near < n) : sm n (fun j => b2 (ringK n near i j)) = 2 * near := by
  have e : sm n (fun j => b2 (ringK n near i j)) = sm n (fun j => if j < i then (fun r => b2 (decide (1 ≤ r ∧ r < near + 1)) + b2 (decide (n - near ≤ r ∧ r < n))) (j + n - i) else (fun r => b2 (decide (1 ≤ r ∧ r < near + 1)) + b2 (decide (n - near ≤ r ∧ r < n))) (j - i)) := sm_congr fun j hj => by
    unfold ringK
    rw [apart_at hi hj]
    have tt : b2 true = 1 := rfl
    have ff : b2 false = 0 := rfl
    have key : ∀ (a : Int) (r : Nat), r < n → ((0 < a ∧ a ≤ near) ↔ (1 ≤ r ∧ r < near + 1) ∨ (n - near ≤ r ∧ r < n)) → b2 (decide (0 < a) && decide (a ≤ near)) = b2 (decide (1 ≤ r ∧ r < near + 1)) + b2 (decide (n - near ≤ r ∧ r < n)) := by
      intro a r hr h
      rw [← Bool.decide_and]
      by_cases h1 : 1 ≤ r ∧ r < near + 1
      · rw [decide_eq_true h1, decide_eq_false (show ¬ (n - near ≤ r ∧ r < n) by omega), decide_eq_true (h.mpr (.inl h1))]; rfl
      · by_cases h2 : n - near ≤ r ∧ r < n
        · rw [decide_eq_false h1, decide_eq_true h2, decide_eq_true (h.mpr (.inr h2))]; rfl
        · rw [decide_eq_false h1, decide_eq_false h2, decide_eq_false (fun q => (h.mp q).elim h1 h2)]; rfl
    split
    · refine key _ _ (by omega) ?_
      split <;> omega
    · refine key _ _ (by omega) ?_
      split
      · omega
      · split <;> omega
  refine e.trans ((sm_rot (fun r => b2 (decide (1 ≤ r ∧ r < near + 1)) + b2 (decide (n - near ≤ r ∧ r < n))) n i (by omega)).trans ?_)
  rw [sm_add, sm_between, sm_between]
  omega
theorem even_deg {u i : Nat} (hi : i < 2 * u) : sm (2 * u) (fun j => b2 (evenK u i j)) = u - 1 := by
  have hu : 0 < u := by omega
  have dv : ∀ j : Nat, j < 2 * u → ((j : Int) / u = if j < u then 0 else 1) := by
    intro j hj
    split
    · exact Int.ediv_eq_zero_of_lt (by omega) (by omega)
    · have : (j : Int) = (j - u : Nat) + u * 1 := by omega
      rw [this, Int.add_mul_ediv_left _ _ (by omega), Int.ediv_eq_zero_of_lt (by omega) (by omega)]; rfl
  have e : sm (2 * u) (fun j => b2 (evenK u i j)) = sm (2 * u) (fun j => if j = i then 0 else b2 (decide ((if i < u then 0 else u) ≤ j ∧ j < (if i < u then u else 2 * u)))) := sm_congr fun j hj => by
    unfold evenK
    rw [dv i hi, dv j hj]
    by_cases c : j = i
    · subst c; simp [b2]
    · rw [if_neg c]
      have c' : ¬ ((i : Int) = (j : Int)) := by omega
      rw [decide_eq_false c', Bool.not_false, Bool.and_true]
      congr 1
      refine decide_eq_decide.mpr ?_
      split <;> split <;> omega
  rw [e, sm_but i _ _ hi, sm_between]
  have : b2 (decide ((if i < u then 0 else u) ≤ i ∧ i < (if i < u then u else 2 * u))) = 1 := by
    rw [decide_eq_true]
    · rfl
    · split <;> omega
  rw [this]
  split <;> omega
theorem b2_or {a b : Bool} (h : ¬ (a = true ∧ b = true)) : b2 (a || b) = b2 a + b2 b := by
  cases a <;> cases b <;> first | rfl | exact absurd ⟨rfl, rfl⟩ h
theorem wofK_alike (n : Nat) : alikeN n (wofK n) = fewestZ n := by
  have hg := goodman (wofK_w n)
  have h3 := n3_eq n
  unfold fewestZ
  by_cases c0 : (n : Int) % 2 = 0
  · rw [if_pos c0]
    obtain ⟨u, hu⟩ : ∃ u : Nat, n = 2 * u := ⟨n / 2, by omega⟩
    subst hu
    have hd : ∀ i, i < 2 * u → deg (2 * u) (wofK (2 * u)) i = u - 1 := fun i hi => by
      rw [← even_deg hi]
      refine sm_congr fun j hj => ?_
      congr 1
      show (wof0 (2 * u) i j || _) = _
      unfold wof0
      rw [if_pos c0, decide_eq_false (by omega), Bool.false_and, Bool.or_false]
      have : ((2 * u : Nat) : Int) / 2 = u := by omega
      rw [this]
    have hm : mixed (2 * u) (wofK (2 * u)) = ((2 * u : Nat) : Int) * ((u : Int) * ((u : Int) - 1)) := by
      rw [← sm_const]
      refine sm_congr fun i hi => ?_
      rw [hd i hi]
      have : ((2 * u : Nat) : Int) = 2 * (u : Int) := by omega
      rw [this]; grind
    rw [hm] at hg
    have e : ((2 * u : Nat) : Int) = 2 * (u : Int) := by omega
    rw [e] at hg h3 ⊢
    have key : 2 * (u : Int) * (2 * u - 2) * (2 * u - 4) = 24 * alikeN (2 * u) (wofK (2 * u)) := by grind
    rw [key]; omega
  · rw [if_neg c0]
    have base : ∀ i, i < n → sm n (fun j => b2 (wof0 n i j)) = 2 * ((n / 4 : Nat) : Int) := fun i hi => by
      rw [← ring_deg (near := n / 4) hi (by omega)]
      refine sm_congr fun j hj => ?_
      unfold wof0
      rw [if_neg c0]
      have : ((n : Nat) : Int) / 4 = ((n / 4 : Nat) : Int) := by omega
      rw [this]
    by_cases c1 : (n : Int) % 4 = 1
    · rw [if_pos c1]
      obtain ⟨u, hu⟩ : ∃ u : Nat, n = 4 * u + 1 := ⟨n / 4, by omega⟩
      have hn4 : n / 4 = u := by omega
      have hd : ∀ i, i < n → deg n (wofK n) i = 2 * u := fun i hi => by
        rw [hn4] at base
        rw [← base i hi]
        refine sm_congr fun j hj => ?_
        congr 1
        show (wof0 n i j || _) = _
        rw [decide_eq_false (by omega), Bool.false_and, Bool.or_false]
      have hm : mixed n (wofK n) = (n : Int) * ((2 * (u : Int)) * (2 * u)) := by
        rw [← sm_const]
        refine sm_congr fun i hi => ?_
        rw [hd i hi]
        have : (n : Int) = 4 * (u : Int) + 1 := by omega
        rw [this]; grind
      rw [hm] at hg
      have e : (n : Int) = 4 * (u : Int) + 1 := by omega
      rw [e] at hg h3 ⊢
      have key : (4 * (u : Int) + 1) * (4 * u + 1 - 1) * (4 * u + 1 - 5) = 24 * alikeN n (wofK n) := by grind
      rw [key]; omega
    · rw [if_neg c1]
      have h4 : n % 4 = 3 := by omega
      obtain ⟨u, hu⟩ : ∃ u : Nat, n = 4 * u + 3 := ⟨n / 4, by omega⟩
      have hn4 : n / 4 = u := by omega
      have hn2 : n / 2 = 2 * u + 1 := by omega
      have hd : ∀ i, i < n → deg n (wofK n) i = 2 * u + (if i = n / 2 + 1 then 0 else 1) := fun i hi => by
        rw [hn4] at base
        rw [← base i hi]
        have split2 : deg n (wofK n) i = sm n (fun j => b2 (wof0 n i j)) + sm n (fun j => b2 (mtS n (n / 2) i j)) := by
          rw [← sm_add]
          refine sm_congr fun j hj => ?_
          show b2 (wof0 n i j || (decide ((n : Int) % 4 = 3) && mtS n (n / 2) i j)) = _
          rw [decide_eq_true (show (n : Int) % 4 = 3 by omega), Bool.true_and]
          refine b2_or fun ⟨q1, q2⟩ => ?_
          obtain ⟨m1, m2⟩ := (mt_part h4 hi).mp q2
          unfold wof0 at q1
          rw [if_neg c0] at q1
          unfold ringK at q1
          rw [apart_at hi hj] at q1
          simp only [Bool.and_eq_true, decide_eq_true_eq] at q1
          have e4 : ((n : Nat) : Int) / 4 = u := by omega
          rw [e4] at q1
          rw [hn2] at m1 m2
          obtain ⟨q1, q3⟩ := q1
          split at m2
          · subst m2
            rw [if_neg (by omega), if_neg (by omega)] at q3
            split at q3 <;> omega
          · split at m2
            · subst m2
              rw [if_pos (by omega)] at q3
              split at q3 <;> omega
            · split at m2
              · rw [if_neg (by omega), if_neg (by omega)] at q3
                split at q3 <;> omega
              · rw [if_pos (by omega)] at q3
                split at q3 <;> omega
        rw [split2]
        congr 1
        by_cases c : i = n / 2 + 1
        · rw [if_pos c]
          have : sm n (fun j => b2 (mtS n (n / 2) i j)) = sm n (fun _ => 0) := sm_congr fun j hj => by
            cases e : mtS n (n / 2) i j with
            | false => rfl
            | true => exact absurd c ((mt_part h4 hi).mp e).1
          rw [this, sm_const]; omega
        · rw [if_neg c]
          generalize hp : (if i = 0 then n / 2 else if i = n / 2 then 0 else if i < n / 2 then i + n / 2 + 1 else i - (n / 2 + 1)) = p
          have hpn : p < n := by
            rw [← hp]
            split
            · omega
            · split
              · omega
              · split <;> omega
          rw [← sm_is p n hpn]
          refine sm_congr fun j hj => ?_
          have q := mt_part (j := j) h4 hi
          rw [hp] at q
          congr 1
          cases e : mtS n (n / 2) i j with
          | true => exact (decide_eq_true (q.mp e).2).symm
          | false =>
            refine (decide_eq_false fun z => ?_).symm
            rw [q.mpr ⟨c, z⟩] at e
            cases e
      have hm : mixed n (wofK n) = (n : Int) * ((2 * (u : Int) + 1) * (2 * u + 1)) - 1 := by
        have e1 : mixed n (wofK n) = sm n (fun i => if i = n / 2 + 1 then 0 else (2 * (u : Int) + 1) * (2 * u + 1)) + sm n (fun i => ((2 * (u : Int)) * (2 * u + 2)) * b2 (decide (i = n / 2 + 1))) := by
          rw [← sm_add]
          refine sm_congr fun i hi => ?_
          rw [hd i hi]
          have en : (n : Int) = 4 * (u : Int) + 3 := by omega
          rw [en]
          by_cases c : i = n / 2 + 1
          · rw [if_pos c, if_pos c, decide_eq_true c]
            show _ = 0 + (2 * (u : Int)) * (2 * u + 2) * 1
            grind
          · rw [if_neg c, if_neg c, decide_eq_false c]
            show _ = _ + (2 * (u : Int)) * (2 * u + 2) * 0
            grind
        rw [e1, sm_but (n / 2 + 1) (fun _ => (2 * (u : Int) + 1) * (2 * u + 1)) n (by omega), sm_const, sm_mul, sm_is _ _ (by omega)]
        grind
      rw [hm] at hg
      have e : (n : Int) = 4 * (u : Int) + 3 := by omega
      rw [e] at hg h3 ⊢
      have key : (4 * (u : Int) + 3 + 1) * (4 * u + 3 - 3) * (4 * u + 3 - 4) = 24 * alikeN n (wofK n) := by grind
      rw [key]; omega
/-- the law's own -/
def lawFew (n : Int) : Int :=
  let half := (n - 1) / 2
  let m0 := n * half * (n - 1 - half)
  let m1 := if n % 4 = 3 then m0 - half * half + (half - 1) * (n - half) else m0
  (n * (n - 1) * (n - 2) / 3 - m1) / 2
theorem lawFew_eq (n : Nat) : lawFew n = fewestZ n := by
  have hg := goodman (wofK_w n)
  have h3 := n3_eq n
  have hf := wofK_alike n
  have e3 : (n : Int) * (n - 1) * (n - 2) / 3 = 2 * n3 n := by rw [← h3]; omega
  unfold lawFew
  simp only
  rw [e3]
  unfold fewestZ
  by_cases c0 : (n : Int) % 2 = 0
  · obtain ⟨u, hu⟩ : ∃ u : Int, (n : Int) = 2 * u := ⟨n / 2, by omega⟩
    have eh : ((n : Int) - 1) / 2 = u - 1 := by omega
    rw [if_pos c0, if_neg (by omega), eh]
    rw [hu] at h3 ⊢
    have key : 2 * u * (2 * u - 2) * (2 * u - 4) = 12 * (2 * n3 n - 2 * u * (u - 1) * (2 * u - 1 - (u - 1))) := by grind
    rw [key]; omega
  · rw [if_neg c0]
    by_cases c1 : (n : Int) % 4 = 1
    · obtain ⟨u, hu⟩ : ∃ u : Int, (n : Int) = 4 * u + 1 := ⟨n / 4, by omega⟩
      have eh : ((n : Int) - 1) / 2 = 2 * u := by omega
      rw [if_pos c1, if_neg (by omega), eh]
      rw [hu] at h3 ⊢
      have key : (4 * u + 1) * (4 * u + 1 - 1) * (4 * u + 1 - 5) = 12 * (2 * n3 n - (4 * u + 1) * (2 * u) * (4 * u + 1 - 1 - 2 * u)) := by grind
      rw [key]; omega
    · obtain ⟨u, hu⟩ : ∃ u : Int, (n : Int) = 4 * u + 3 := ⟨n / 4, by omega⟩
      have eh : ((n : Int) - 1) / 2 = 2 * u + 1 := by omega
      rw [if_neg c1, if_pos (by omega), eh]
      rw [hu] at h3 ⊢
      have key : (4 * u + 3 + 1) * (4 * u + 3 - 3) * (4 * u + 3 - 4) = 12 * (2 * n3 n - ((4 * u + 3) * (2 * u + 1) * (4 * u + 3 - 1 - (2 * u + 1)) - (2 * u + 1) * (2 * u + 1) + (2 * u + 1 - 1) * (4 * u + 3 - (2 * u + 1)))) := by grind
      rw [key]; omega
end Ak

namespace AK
open PySem PySem.Spec PyProof.Rows L2 Evl Ak
section
variable {K : PySem.W.Frag} {σ : St} {H H0 H' : Hp} {ta tb tc te tl : TE} {t : TT} {tz tu tw : TS} {D : Ends}
/-- a < b <= c, as a value -/
theorem ev_chain {f g : Int → Int → Bool} {i j k : Int} (ha : Ev ta σ H (.int i)) (hb : Ev tb σ H (.int j)) (hc : Ev tc σ H (.int k)) : Ev (tChain (rI0 fun i j => .bl (f i j)) (rI0 fun i j => .bl (g i j)) ta tb tc) σ H (.bl (f i j && g j k)) := fun H1 e Q q =>
  ha H1 e _ fun H2 e2 => hb H2 (e.trans e2) _ fun H3 e3 => ⟨i, j, rfl, rfl, f i j, rfl, by
    cases h : f i j with
    | true =>
      refine iteT ?_
      refine hc H3 ((e.trans e2).trans e3) _ fun H4 e4 => ⟨j, k, rfl, rfl, ?_⟩
      have := q H4 ((e2.trans e3).trans e4)
      rw [h] at this
      exact this
    | false =>
      refine iteF ?_
      have := q H3 (e2.trans e3)
      rw [h] at this
      exact this⟩
theorem ev_ifS {b : Bool} (h : EvT t σ H b) : Ev (tIf t (tC (.str "x")) (tC (.str "-"))) σ H (.str (sgS b)) := by
  cases b with
  | true => exact ev_if h (fun _ => ev_is ev_c (by rw [sgS_x])) (fun z => nomatch z)
  | false => exact ev_if h (fun z => nomatch z) (fun _ => ev_is ev_c (by rw [sgS_d]))
theorem ev_ifS' {b : Bool} (h : EvT t σ H b) : Ev (tIf t (tC (.str "-")) (tC (.str "x"))) σ H (.str (sgS (!b))) := by
  cases b with
  | true => exact ev_if h (fun _ => ev_is ev_c (by rw [← sgS_d]; rfl)) (fun z => nomatch z)
  | false => exact ev_if h (fun z => nomatch z) (fun _ => ev_is ev_c (by rw [← sgS_x]; rfl))
theorem q_par {ta : TA} {i j : Nat} {v w : V} (h : EvA ta σ H [v, w]) (k : ∀ H1, Ex H H1 → tz D ((σ.set i (some v)).set j (some w)) H1) : tSeq (tPar i j ta) tz D σ H :=
  h H (Ex.refl H) _ fun H1 e => ⟨v, w, rfl, k H1 e⟩
theorem s_par {ta : TA} {i j : Nat} {v w : V} (h : EvA ta σ H [v, w]) (k : ∀ H1, Ex H H1 → D.nx ((σ.set i (some v)).set j (some w)) H1) : tPar i j ta D σ H :=
  h H (Ex.refl H) _ fun H1 e => ⟨v, w, rfl, k H1 e⟩
theorem sgRow_succ (n : Nat) (f : Nat → Bool) : sgRow (n + 1) f = sgRow n f ++ [V.str (sgS (f n))] := by
  unfold sgRow
  rw [List.range_succ, List.map_append]; rfl
end
theorem mA_eq {n s : Nat} (h4 : n % 4 = 3) (hs : s < n / 2) : ((0 + (s : Int) * 2) * ((n : Int) / 2)) % n = (mA n s : Nat) := by
  have e : (0 + (s : Int) * 2) * ((n : Int) / 2) = -(s : Int) + n * s := by
    have : (n : Int) = 2 * ((n : Int) / 2) + 1 := by omega
    generalize (n : Int) / 2 = h at this ⊢
    rw [this]; grind
  rw [e, Int.add_mul_emod_self_left]
  unfold mA
  split
  · rename_i h
    rw [h]; rfl
  · have : -(s : Int) = ((n - s : Nat) : Int) + n * (-1) := by omega
    rw [this, Int.add_mul_emod_self_left]
    exact Int.emod_eq_of_lt (by omega) (by omega)
theorem mB_eq {n s : Nat} (h4 : n % 4 = 3) (hs : s < n / 2) : ((0 + (s : Int) * 2 + 1) * ((n : Int) / 2)) % n = (mB n s : Nat) := by
  have e : (0 + (s : Int) * 2 + 1) * ((n : Int) / 2) = ((n : Int) / 2 - s) + n * s := by
    have : (n : Int) = 2 * ((n : Int) / 2) + 1 := by omega
    generalize (n : Int) / 2 = h at this ⊢
    rw [this]; grind
  rw [e, Int.add_mul_emod_self_left]
  unfold mB
  have : (n : Int) / 2 - s = ((n / 2 - s : Nat) : Int) := by omega
  rw [this]
  exact Int.emod_eq_of_lt (by omega) (by omega)
theorem rg_two {n : Nat} (h4 : n % 4 = 3) (hn : n ≤ 200) : RgC 0 ((n : Int) - 1) 2 (n / 2) := by
  have e : Builtin.Range.rangeSize 0 ((n : Int) - 1) 2 = (n / 2 : Nat) := by
    unfold Builtin.Range.rangeSize
    rw [if_pos (by decide), if_pos (by omega)]
    omega
  refine ⟨by decide, by decide, ?_, e⟩
  unfold Builtin.Range.small
  rw [e]
  simp only [Builtin.Range.rangeFitsLong, Bool.and_eq_true, Bool.or_eq_true, decide_eq_true_eq, beq_iff_eq, show (2 : Int) > 0 by decide, if_true]
  omega
/-! ### sizes in bits -/
def Bt (m : Nat) (x : Int) : Prop := x.natAbs < 2 ^ m
theorem Bt.mono {m n : Nat} {x : Int} (h : Bt m x) (hm : m ≤ n) : Bt n x := Nat.lt_of_lt_of_le h (Nat.pow_le_pow_right (by decide) hm)
theorem Bt.add {m : Nat} {x y : Int} (h : Bt m x) (h2 : Bt m y) : Bt (m + 1) (x + y) := by
  unfold Bt at *
  rw [Nat.pow_succ]
  have := Int.natAbs_add_le x y
  omega
theorem Bt.sub {m : Nat} {x y : Int} (h : Bt m x) (h2 : Bt m y) : Bt (m + 1) (x - y) := by
  unfold Bt at *
  rw [Nat.pow_succ]
  omega
theorem Bt.mul {m n : Nat} {x y : Int} (h : Bt m x) (h2 : Bt n y) : Bt (m + n) (x * y) := mul_bd h h2
theorem Bt.ok {m n : Nat} {x y : Int} (h : Bt m x) (h2 : Bt n y) (hm : m + n ≤ 134217728 := by decide) : IntMulOk x y := mulok h h2 hm
theorem Bt.small {x : Int} (m : Nat) (h : -4294967296 < x) (h2 : x < 4294967296) (hm : 32 ≤ m := by decide) : Bt m x := by
  have : Bt 32 x := by unfold Bt; omega
  exact this.mono hm
theorem Bt.of_bits {x : Int} {m : Nat} (h : Builtin.Int.intBits x ≤ m) : Bt m x := by
  unfold Bt
  unfold Builtin.Int.intBits at h
  split at h
  · rename_i h0
    have e : x.natAbs = 0 := by first | exact h0 | simpa using h0
    rw [e]; exact Nat.two_pow_pos m
  · exact Nat.lt_of_lt_of_le Nat.lt_log2_self (Nat.pow_le_pow_right (by decide) h)
theorem Bt.sum {m : Nat} : ∀ {ns : List Int} {k : Nat}, (∀ x ∈ ns, Bt m x) → ns.length ≤ k → Bt (m + k) ns.sum
  | [], k, _, _ => by unfold Bt; show 0 < _; exact Nat.two_pow_pos _
  | x :: r, 0, _, h => by simp at h
  | x :: r, k + 1, h, hl => by
    have ih := Bt.sum (ns := r) (k := k) (fun y hy => h y (List.mem_cons_of_mem _ hy)) (by simpa using hl)
    rw [List.sum_cons]
    exact ((h x (List.mem_cons_self ..)).mono (Nat.le_add_right m k)).add ih
/-- a cell by its digits, mixed -/
def lawNum (c a w : Int) : Int :=
  if 10 ^ 18 ≤ c then c else
    ((((c + 977 * a) * 48271 + w) % 2147483647) * (c + 31 * a + 7)) * ((((c + 977 * a) * 48271 + w) % 2147483647) + c + 5) * ((((c + 977 * a) * 48271 + w) % 2147483647) * (((c + 977 * a) * 48271 + w) % 2147483647) + 11) / (1009 + a)
end AK

namespace AK
open PySem PySem.Spec PyProof.Rows L2 Evl Ak
/-! ### a list, new or not -/
def EvQ (K : PySem.W.Frag) (te : TE) (σ : St) (H : Hp) (xs : List V) : Prop := ∀ H1, Ex H H1 → ∀ Q : VK, (∀ p H2, Ex H1 H2 → SqL K H2 p xs → Q (.ref p) H2) → te σ H1 Q
section
variable {K : PySem.W.Frag} {σ : St} {H H0 Hw H' : Hp} {ta tb tc te tl : TE} {t : TT} {tz tu tw : TS} {D : Ends} {xs ys : List V}
theorem EvQ.of_ev {p : Addr} (h : Ev te σ H (.ref p)) (hx : SqL K H0 p xs) (e : Ex H0 H) : EvQ K te σ H xs := fun H1 e1 Q q => h H1 e1 _ fun H2 e2 => q p H2 e2 (ex_l ((e.trans e1).trans e2) hx)
theorem EvQ.of_el (h : EvL te σ H xs) : EvQ K te σ H xs := fun H1 e1 Q q => h H1 e1 _ fun p H2 _ e2 hp => q p H2 e2 (SqL.of hp)
theorem EvQ.mono (e : Ex H H') (h : EvQ K te σ H xs) : EvQ K te σ H' xs := fun H1 e1 Q q => h H1 (e.trans e1) Q q
/-! ### == of lists -/
theorem dp_ints {p : Addr} {ns : List Int} (h : SqL K H p (ns.map V.int)) : Dp K H (.ref p) (.list (ns.map PyData.int)) := by
  refine .lst h ?_
  clear h
  induction ns with
  | nil => exact .nil
  | cons n r ih => exact .cons (.int n) ih
theorem dp_strs {p : Addr} {ss : List Str} (h : SqL K H p (ss.map V.str)) : Dp K H (.ref p) (.list (ss.map PyData.str)) := by
  refine .lst h ?_
  clear h
  induction ss with
  | nil => exact .nil
  | cons n r ih => exact .cons (.str n) ih
theorem lay_ints : ∀ ns : List Int, PyData.canLayAll0 (ns.map PyData.int) = true
  | [] => rfl
  | n :: r => by
    show (PyData.canLay0 (.int n) && PyData.canLayAll0 (r.map PyData.int)) = true
    rw [lay_ints r]; rfl
theorem depth_ints : ∀ ns : List Int, PyData.depthAll (ns.map PyData.int) = 0
  | [] => rfl
  | n :: r => by
    show max (PyData.depth (.int n)) (PyData.depthAll (r.map PyData.int)) = 0
    rw [depth_ints r]; rfl
theorem shaped_ints (ns : List Int) : SeqAt.shaped (.list (ns.map PyData.int)) = true := by
  unfold SeqAt.shaped
  show (PyData.canLayAll0 (ns.map PyData.int) && decide (PyData.depthAll (ns.map PyData.int) + 1 ≤ 64)) = true
  rw [lay_ints, depth_ints]; rfl
def OkS (s : Str) : Prop := PyData.canLay0 (.str s) = true
theorem lay_strs : ∀ ss : List Str, (∀ s ∈ ss, OkS s) → PyData.canLayAll0 (ss.map PyData.str) = true
  | [], _ => rfl
  | n :: r, h => by
    show (PyData.canLay0 (.str n) && PyData.canLayAll0 (r.map PyData.str)) = true
    rw [lay_strs r fun s hs => h s (List.mem_cons_of_mem _ hs), h n (List.mem_cons_self ..)]; rfl
theorem depth_strs : ∀ ns : List Str, PyData.depthAll (ns.map PyData.str) = 0
  | [] => rfl
  | n :: r => by
    show max (PyData.depth (.str n)) (PyData.depthAll (r.map PyData.str)) = 0
    rw [depth_strs r]; rfl
theorem shaped_strs (ss : List Str) (h : ∀ s ∈ ss, OkS s) : SeqAt.shaped (.list (ss.map PyData.str)) = true := by
  unfold SeqAt.shaped
  show (PyData.canLayAll0 (ss.map PyData.str) && decide (PyData.depthAll (ss.map PyData.str) + 1 ≤ 64)) = true
  rw [lay_strs ss h, depth_strs]; rfl
theorem eqv_ints (ns ms : List Int) : PyData.eqv (.list (ns.map PyData.int)) (.list (ms.map PyData.int)) = decide (ns = ms) := by
  rw [PyData.eqv]; exact PySem.W.eqvAll_map ns ms
theorem eqv_strs (ns ms : List Str) : PyData.eqv (.list (ns.map PyData.str)) (.list (ms.map PyData.str)) = decide (ns = ms) := by
  rw [PyData.eqv]; exact PySem.W.eqvAll_map ns ms
theorem okS_row (n : Nat) (f : Nat → Bool) : OkS (rowS n f) := by
  show (rowS n f).cps.all (· < 0x110000) = true
  rw [Array.all_eq_true]
  intro i hi
  rw [row_size] at hi
  have h := row_get (f := f) hi
  have hs : i < (rowS n f).cps.size := by rw [row_size]; exact hi
  rw [show (rowS n f).cps.getD i 0 = (rowS n f).cps[i] by simp [hs]] at h
  rw [h]
  cases f i <;> decide
theorem ev_eqQI {ns ms : List Int} (h1 : EvQ K ta σ H (ns.map V.int)) (h2 : EvQ K tb σ H (ms.map V.int)) : Ev (tOp (rEqD K) ta tb) σ H (.bl (decide (ns = ms))) := fun H1 e Q q =>
  h1 H1 e _ fun p H2 e2 hp => h2 H2 (e.trans e2) _ fun p' H3 e3 hp' => ⟨_, _, dp_ints (ex_l e3 hp), dp_ints hp', shaped_ints ns, shaped_ints ms, by rw [eqv_ints]; exact q H3 (e2.trans e3)⟩
theorem ev_neQI {ns ms : List Int} (h1 : EvQ K ta σ H (ns.map V.int)) (h2 : EvQ K tb σ H (ms.map V.int)) : Ev (tOp (rNeD K) ta tb) σ H (.bl (!decide (ns = ms))) := fun H1 e Q q =>
  h1 H1 e _ fun p H2 e2 hp => h2 H2 (e.trans e2) _ fun p' H3 e3 hp' => ⟨_, _, dp_ints (ex_l e3 hp), dp_ints hp', shaped_ints ns, shaped_ints ms, by rw [eqv_ints]; exact q H3 (e2.trans e3)⟩
theorem ev_eqQS {ns ms : List Str} (h1 : EvQ K ta σ H (ns.map V.str)) (h2 : EvQ K tb σ H (ms.map V.str)) (o1 : ∀ s ∈ ns, OkS s) (o2 : ∀ s ∈ ms, OkS s) : Ev (tOp (rEqD K) ta tb) σ H (.bl (decide (ns = ms))) := fun H1 e Q q =>
  h1 H1 e _ fun p H2 e2 hp => h2 H2 (e.trans e2) _ fun p' H3 e3 hp' => ⟨_, _, dp_strs (ex_l e3 hp), dp_strs hp', shaped_strs ns o1, shaped_strs ms o2, by rw [eqv_strs]; exact q H3 (e2.trans e3)⟩
theorem ev_neQS {ns ms : List Str} (h1 : EvQ K ta σ H (ns.map V.str)) (h2 : EvQ K tb σ H (ms.map V.str)) (o1 : ∀ s ∈ ns, OkS s) (o2 : ∀ s ∈ ms, OkS s) : Ev (tOp (rNeD K) ta tb) σ H (.bl (!decide (ns = ms))) := fun H1 e Q q =>
  h1 H1 e _ fun p H2 e2 hp => h2 H2 (e.trans e2) _ fun p' H3 e3 hp' => ⟨_, _, dp_strs (ex_l e3 hp), dp_strs hp', shaped_strs ns o1, shaped_strs ms o2, by rw [eqv_strs]; exact q H3 (e2.trans e3)⟩
/-- webs -/
def webL (n : Nat) (k : Rel) : List Str := (List.range n).map fun i => rowS n (k i)
theorem webV_eq (n : Nat) (k : Rel) : webV n k = (webL n k).map V.str := by unfold webV webL; rw [List.map_map]; rfl
theorem webL_ok (n : Nat) (k : Rel) : ∀ s ∈ webL n k, OkS s := by
  intro s hs
  obtain ⟨i, _, rfl⟩ := List.mem_map.mp hs
  exact okS_row n (k i)
theorem webL_inj {n : Nat} {k k' : Rel} : webL n k = webL n k' ↔ ∀ i j, i < n → j < n → k i j = k' i j := by
  constructor
  · intro h i j hi hj
    have e : (webL n k)[i]? = (webL n k')[i]? := by rw [h]
    unfold webL at e
    simp only [List.getElem?_map, List.getElem?_range hi, Option.map_some, Option.some.injEq] at e
    exact row_inj.mp e j hj
  · intro h
    unfold webL
    exact List.map_congr_left fun i hi => row_congr fun j hj => h i j (List.mem_range.mp hi) hj
theorem webL_len (n : Nat) (k : Rel) : (webL n k).length = n := by simp [webL]
/-! ### choices -/
theorem el_if {b : Bool} (h : EvT t σ H b) (h1 : b = true → EvL ta σ H xs) (h2 : b = false → EvL tb σ H xs) : EvL (tIf t ta tb) σ H xs := fun H1 e Q q => h H1 e _ fun H2 e2 => by
  cases b with
  | true =>
    show ta σ H2 Q
    exact h1 rfl H2 (e.trans e2) Q fun p H3 hp e3 h3 => q p H3 (fresh_back e2 hp) (e2.trans e3) h3
  | false =>
    show tb σ H2 Q
    exact h2 rfl H2 (e.trans e2) Q fun p H3 hp e3 h3 => q p H3 (fresh_back e2 hp) (e2.trans e3) h3
/-- the first operand a new tuple -/
theorem ev_opU1 {us : List V} {r : R2} {y z : V} (ha : EvU ta σ H us) (hb : Ev tb σ H y) (hr : ∀ p H1, H1 p = some (.tup us) → Ex H H1 → RV r (.ref p) y H1 z) : Ev (tOp r ta tb) σ H z := fun H1 e Q q =>
  ha H1 e _ fun p H2 _ e2 hp => hb H2 (e.trans e2) _ fun H3 e3 => hr p H3 (e3 _ _ hp) ((e.trans e2).trans e3) H3 (Ex.refl _) Q fun H4 e4 => q H4 ((e2.trans e3).trans e4)
theorem ev_ixU {us : List V} {i : Int} {v : V} (ha : EvU ta σ H us) (hb : Ev tb σ H (.int i)) (hi : atI us i = some v) : Ev (tOp (rIxT K) ta tb) σ H v := ev_opU1 ha hb fun p H1 hp _ => rv_ixT (SqT.of hp) hi
theorem ev_ixQ {i : Int} {v : V} (ha : EvQ K ta σ H xs) (hb : Ev tb σ H (.int i)) (hi : atI xs i = some v) : Ev (tOp (rIxL K) ta tb) σ H v := fun H1 e Q q =>
  ha H1 e _ fun p H2 e2 hp => hb H2 (e.trans e2) _ fun H3 e3 => ⟨p, xs, i, v, rfl, rfl, ex_l e3 hp, hi, q H3 (e2.trans e3)⟩
theorem ev_lenQ (ha : EvQ K te σ H xs) : Ev (tCB (rLenQ K) (tCons te tNil)) σ H (.int (xs.length : Int)) := fun H1 e Q q =>
  ha H1 e _ fun p H2 e2 hp => ⟨p, xs, rfl, Or.inl hp, q H2 e2⟩
theorem ev_sumQ {ns : List Int} (ha : EvQ K te σ H (ns.map V.int)) : Ev (tCB (rSum K) (tCons te tNil)) σ H (.int ns.sum) := fun H1 e Q q =>
  ha H1 e _ fun p H2 e2 hp => ⟨p, ns, rfl, hp, q H2 e2⟩
theorem el_slQ {tl th : TO} {lo hi : Option Int} (h : EvQ K te σ H xs) (h1 : EvO tl σ H lo) (h2 : EvO th σ H hi) : EvL (tSl (rSlL K) te tl th) σ H (cutV xs lo hi) := fun H1 e _ q =>
  h H1 e _ fun p H2 e2 hp => h1 H2 (e.trans e2) _ fun H3 e3 => h2 H3 ((e.trans e2).trans e3) _ fun H4 e4 =>
    ⟨p, xs, rfl, ex_l (e3.trans e4) hp, fun r hr => q r _ (fresh_back ((e2.trans e3).trans e4) hr) (((e2.trans e3).trans e4).trans (Ex.new hr)) upd_same⟩
theorem cut_take (xs : List V) (k : Nat) : cutV xs none (some (k : Int)) = xs.take k := by
  unfold cutV
  rw [HT.sIx_none, HT.sIx_nat]
  simp only [List.drop_zero, Nat.sub_zero]
  by_cases h : k ≤ xs.length
  · rw [Nat.min_eq_left h]
  · rw [Nat.min_eq_right (by omega), List.take_of_length_le (Nat.le_refl _), List.take_of_length_le (by omega)]
theorem cut_drop (xs : List V) (k : Nat) : cutV xs (some (k : Int)) none = xs.drop k := by
  unfold cutV
  rw [HT.sIx_none, HT.sIx_nat]
  by_cases h : k ≤ xs.length
  · rw [Nat.min_eq_left h, List.take_of_length_le (by simp)]
  · rw [Nat.min_eq_right (by omega)]
    simp [List.drop_eq_nil_of_le (show xs.length ≤ k by omega)]
/-- the least of some ints -/
theorem ev_minQ {ns : List Int} {m : Int} (ha : EvQ K te σ H (ns.map V.int)) (hm : m ∈ ns) (hle : ∀ y ∈ ns, m ≤ y) : Ev (tCB (rMin K) (tCons te tNil)) σ H (.int m) := fun H1 e Q q =>
  ha H1 e _ fun p H2 e2 hp => ⟨p, ns, rfl, hp, List.length_pos_of_mem hm, fun m' h1 h2 => by
    have e : m' = m := Int.le_antisymm (h2 m hm) (hle m' h1)
    rw [e]; exact q H2 e2⟩
theorem least : ∀ {ns : List Int}, ns ≠ [] → ∃ m, m ∈ ns ∧ ∀ y ∈ ns, m ≤ y
  | [], h => absurd rfl h
  | [a], _ => ⟨a, by simp, by simp⟩
  | a :: b :: r, _ => by
    obtain ⟨m, h1, h2⟩ := least (ns := b :: r) (by simp)
    by_cases h : a ≤ m
    · exact ⟨a, by simp, fun y hy => by
        rcases List.mem_cons.mp hy with e | hy
        · rw [e]; exact Int.le_refl _
        · exact Int.le_trans h (h2 y hy)⟩
    · exact ⟨m, List.mem_cons_of_mem _ h1, fun y hy => by
        rcases List.mem_cons.mp hy with e | hy
        · rw [e]; omega
        · exact h2 y hy⟩
/-! ### walks over what is new -/
def EvWN (wi : TI) (σ : St) (H : Hp) (n : Nat) (it : Nat → V) : Prop := ∀ H1, Ex H H1 → ∀ R : It → Hp → Prop, (∀ J H2, Ex H1 H2 → Wk J n H2 it → R J H2) → wi σ H1 R
def EvWN2 (wi : TI) (σ : St) (H : Hp) (n : Nat) (a b : Nat → V) : Prop := ∀ H1, Ex H H1 → ∀ R : It → Hp → Prop, (∀ J H2, Ex H1 H2 → Wk2 J n H2 a b → R J H2) → wi σ H1 R
theorem ewn_list (h : EvQ K tl σ H xs) : EvWN (iList K tl) σ H xs.length (fun i => xs.getD i .non) := fun H1 e R r =>
  h H1 e _ fun p H2 e2 hp => ⟨p, rfl, ⟨xs, hp⟩, r _ H2 e2
    ⟨fun i H3 e3 hi => ⟨xs, xs[i], ex_l e3 hp, by simp [hi]⟩, fun H3 e3 => ⟨xs, ex_l e3 hp, Nat.le_refl _⟩, fun i H3 x H4 e3 hi y => ⟨y.1, by
      have q := y.2 xs (ex_l e3 hp)
      rw [List.getD_eq_getElem?_getD, q]; rfl⟩⟩⟩
theorem ewn_enum (h : EvQ K tl σ H xs) : EvWN2 (iEnum K (tCons tl tNil)) σ H xs.length (fun i => .int (i : Nat)) (fun i => xs.getD i .non) := fun H1 e R r =>
  h H1 e _ fun p H2 e2 hp => ⟨p, xs, rfl, hp, r _ H2 e2
    ⟨fun i H3 e3 hi => ⟨xs, xs[i], ex_l e3 hp, by simp [hi]⟩, fun H3 e3 => ⟨xs, ex_l e3 hp, Nat.le_refl _⟩, fun i H3 x H4 e3 hi y => by
      obtain ⟨T, z, h1, h2, h3, h4⟩ := y
      have q := h4 _ (ex_l e3 hp)
      exact ⟨T, h1, h2, by rw [h3, List.getD_eq_getElem?_getD, q]; rfl⟩⟩⟩
theorem s_forN {wi : TI} {n j : Nat} {it : Nat → V} (h : EvWN wi σ H n it) (Pv : Hp → Nat → St → Hp → Prop) (h0 : ∀ H1, Ex H H1 → Pv H1 0 σ H1) (hx : ∀ Hb i σ' H', i ≤ n → Pv Hb i σ' H' → Ex Hb H')
    (hs : ∀ Hb i σ' H', Ex H Hb → i < n → Pv Hb i σ' H' → tu { D with nx := Pv Hb (i + 1), ct := Pv Hb (i + 1), bk := D.nx } (σ'.set j (some (it i))) H') (hd : ∀ Hb σ' H', Ex H Hb → Pv Hb n σ' H' → D.nx σ' H') : tFor wi (gName j) tu D σ H :=
  h H (Ex.refl H) _ fun J H2 e2 W => ⟨fun i m σ' H' => m = n - i ∧ i ≤ n ∧ Pv H2 i σ' H', ⟨n, by simp, Nat.zero_le _, h0 H2 e2⟩, by
    rintro i m σ' H' ⟨rfl, hi, p⟩
    by_cases hlt : i < n
    · refine .inr ⟨W.goes i H' (hx H2 i σ' H' hi p) hlt, Pv H2 (i + 1), fun σ2 H3 p' => ⟨n - (i + 1), by omega, rfl, hlt, p'⟩, fun x H3 y => ?_⟩
      obtain ⟨e, e'⟩ := W.yields i H' x H3 (hx H2 i σ' H' hi p) hlt y
      subst e e'
      exact hs H2 i σ' _ e2 hlt p
    · have e : i = n := by omega
      subst e
      exact .inl ⟨W.stops H' (hx H2 i σ' H' hi p), hd H2 σ' H' e2 p⟩⟩
theorem s_forN2 {wi : TI} {n j1 j2 : Nat} {a b : Nat → V} (h : EvWN2 wi σ H n a b) (Pv : Hp → Nat → St → Hp → Prop) (h0 : ∀ H1, Ex H H1 → Pv H1 0 σ H1) (hx : ∀ Hb i σ' H', i ≤ n → Pv Hb i σ' H' → Ex Hb H')
    (hs : ∀ Hb i σ' H' T, Ex H Hb → i < n → Pv Hb i σ' H' → H' T = none → tu { D with nx := Pv Hb (i + 1), ct := Pv Hb (i + 1), bk := D.nx } ((σ'.set j1 (some (a i))).set j2 (some (b i))) (upd H' T (.tup [a i, b i]))) (hd : ∀ Hb σ' H', Ex H Hb → Pv Hb n σ' H' → D.nx σ' H') :
    tFor wi (gTup K 2 (gCons (gName j1) (gCons (gName j2) gNil))) tu D σ H :=
  h H (Ex.refl H) _ fun J H2 e2 W => ⟨fun i m σ' H' => m = n - i ∧ i ≤ n ∧ Pv H2 i σ' H', ⟨n, by simp, Nat.zero_le _, h0 H2 e2⟩, by
    rintro i m σ' H' ⟨rfl, hi, p⟩
    by_cases hlt : i < n
    · refine .inr ⟨W.goes i H' (hx H2 i σ' H' hi p) hlt, Pv H2 (i + 1), fun σ2 H3 p' => ⟨n - (i + 1), by omega, rfl, hlt, p'⟩, fun x H3 y => ?_⟩
      obtain ⟨T, e, e', e''⟩ := W.yields i H' x H3 (hx H2 i σ' H' hi p) hlt y
      subst e e''
      exact ⟨T, _, rfl, SqT.of upd_same, rfl, a i, [b i], rfl, b i, [], rfl, rfl, hs H2 i σ' H' T e2 hlt p e'⟩
    · have e : i = n := by omega
      subst e
      exact .inl ⟨W.stops H' (hx H2 i σ' H' hi p), hd H2 σ' H' e2 p⟩⟩
theorem q_forN {wi : TI} {n j : Nat} {it : Nat → V} (h : EvWN wi σ H n it) (Pv : Hp → Nat → St → Hp → Prop) (h0 : ∀ H1, Ex H H1 → Pv H1 0 σ H1) (hx : ∀ Hb i σ' H', i ≤ n → Pv Hb i σ' H' → Ex Hb H')
    (hs : ∀ Hb i σ' H', Ex H Hb → i < n → Pv Hb i σ' H' → tu { D with nx := Pv Hb (i + 1), ct := Pv Hb (i + 1), bk := tz D } (σ'.set j (some (it i))) H') (hd : ∀ Hb σ' H', Ex H Hb → Pv Hb n σ' H' → tz D σ' H') : tSeq (tFor wi (gName j) tu) tz D σ H :=
  s_forN (D := { D with nx := tz D }) h Pv h0 hx hs hd
theorem q_forN2 {wi : TI} {n j1 j2 : Nat} {a b : Nat → V} (h : EvWN2 wi σ H n a b) (Pv : Hp → Nat → St → Hp → Prop) (h0 : ∀ H1, Ex H H1 → Pv H1 0 σ H1) (hx : ∀ Hb i σ' H', i ≤ n → Pv Hb i σ' H' → Ex Hb H')
    (hs : ∀ Hb i σ' H' T, Ex H Hb → i < n → Pv Hb i σ' H' → H' T = none → tu { D with nx := Pv Hb (i + 1), ct := Pv Hb (i + 1), bk := tz D } ((σ'.set j1 (some (a i))).set j2 (some (b i))) (upd H' T (.tup [a i, b i]))) (hd : ∀ Hb σ' H', Ex H Hb → Pv Hb n σ' H' → tz D σ' H') :
    tSeq (tFor wi (gTup K 2 (gCons (gName j1) (gCons (gName j2) gNil))) tu) tz D σ H :=
  s_forN2 (D := { D with nx := tz D }) h Pv h0 hx hs hd
/-! ### calls whose argument is a new list -/
/-- f(new list) -/
theorem ev_hcL {sp : Sp} {E : XK} {v : V} (h : EvL te σ H xs) (hs : ∀ p H1, H1 p = some (.lst xs) → Ex H H1 → SpV sp [.ref p] H1 v) : Ev (tCall sp [] E (tCons te tNil)) σ H v := fun H1 e Q q =>
  h H1 e _ fun p H2 _ e2 hp => hs p H2 hp (e.trans e2) H2 (Ex.refl _) Q (fun H3 e3 => q H3 (e2.trans e3)) E
theorem el_hcL {sp : Sp} {E : XK} (h : EvL te σ H xs) (hs : ∀ p H1, H1 p = some (.lst xs) → Ex H H1 → SpL sp [.ref p] H1 ys) : EvL (tCall sp [] E (tCons te tNil)) σ H ys := fun H1 e Q q =>
  h H1 e _ fun p H2 _ e2 hp => hs p H2 hp (e.trans e2) H2 (Ex.refl _) Q (fun p' H3 hp' e3 h3 => q p' H3 (fresh_back e2 hp') (e2.trans e3) h3) E
end
theorem WebAt.of {K : PySem.W.Frag} {H : Hp} {p : Addr} {n : Nat} {k : Rel} (h : H p = some (.lst (webV n k))) (w : IsW n k) (hn : n ≤ 200) : WebAt K H p n k := ⟨SqL.of h, w, hn⟩
end AK

namespace AK
open PySem PySem.Spec PyProof.Rows L2 Evl Ak
def top (i : Nat) : Stmt := PySem.Challenge.pw_allknown_k02_whole_fewest.main.body.getD i (.Pass ⟨0, 0, 0, 0⟩)
abbrev s_is_number : Stmt := top 6
abbrev s_asked_web : Stmt := top 7
abbrev s_alike : Stmt := top 9
abbrev s_asked_size : Stmt := top 10
abbrev s_fewest : Stmt := top 11
abbrev s_web_of : Stmt := top 12
abbrev s_law_number : Stmt := top 14
abbrev s_law_fewest : Stmt := top 15
abbrev s_law_is_web : Stmt := top 16
abbrev s_law_small : Stmt := top 17
abbrev s_law : Stmt := top 18
theorem sc_is_number : FnScope ["thing"] ["thing"] (defScope s_is_number) := ⟨rfl, rfl, rfl, by decide +kernel, rfl, by decide +kernel, by decide +kernel⟩
theorem sc_asked_web : FnScope ["web", "one", "row", "other"] ["web"] (defScope s_asked_web) := ⟨rfl, rfl, rfl, by decide +kernel, rfl, by decide +kernel, by decide +kernel⟩
theorem sc_alike : FnScope ["web", "size", "mixed", "row"] ["web"] (defScope s_alike) := ⟨rfl, rfl, rfl, by decide +kernel, rfl, by decide +kernel, by decide +kernel⟩
theorem sc_asked_size : FnScope ["size"] ["size"] (defScope s_asked_size) := ⟨rfl, rfl, rfl, by decide +kernel, rfl, by decide +kernel, by decide +kernel⟩
theorem sc_fewest : FnScope ["size"] ["size"] (defScope s_fewest) := ⟨rfl, rfl, rfl, by decide +kernel, rfl, by decide +kernel, by decide +kernel⟩
theorem sc_web_of : FnScope ["size", "near", "half", "found", "one", "signs", "other", "apart", "known", "step"] ["size"] (defScope s_web_of) := ⟨rfl, rfl, rfl, by decide +kernel, rfl, by decide +kernel, by decide +kernel⟩
theorem sc_law_number : FnScope ["_law_cell", "_law_at", "_law_whole", "_law_mixed", "_law_more"] ["_law_cell", "_law_at", "_law_whole"] (defScope s_law_number) := ⟨rfl, rfl, rfl, by decide +kernel, rfl, by decide +kernel, by decide +kernel⟩
theorem sc_law_fewest : FnScope ["_law_size", "_law_half", "_law_mixed"] ["_law_size"] (defScope s_law_fewest) := ⟨rfl, rfl, rfl, by decide +kernel, rfl, by decide +kernel, by decide +kernel⟩
theorem sc_law_is_web : FnScope ["_law_some", "_law_size", "_law_one", "_law_row", "_law_other"] ["_law_some", "_law_size"] (defScope s_law_is_web) := ⟨rfl, rfl, rfl, by decide +kernel, rfl, by decide +kernel, by decide +kernel⟩
theorem sc_law_small : FnScope ["_law_size", "_law_number_here", "_law_signs", "_law_one", "_law_other", "_law_row"] ["_law_size", "_law_number_here"] (defScope s_law_small) := ⟨rfl, rfl, rfl, by decide +kernel, rfl, by decide +kernel, by decide +kernel⟩
theorem sc_law : FnScope ["_law_script", "_law_cells", "_law_whole", "_law_at", "_law_cell", "_law_size", "_law_many", "_law_due", "_law_some", "_law_web", "_law_few", "_law_counts", "_law_number_here", "_law_bits"] ["_law_script"] (defScope s_law) := ⟨rfl, rfl, rfl, by decide +kernel, rfl, by decide +kernel, by decide +kernel⟩
structure Txt (K : PySem.W.Frag) (mg : Str → Option Value) : Prop where
  n_all : mg "all" = none
  n_any : mg "any" = none
  n_bool : mg "bool" = none
  n_enumerate : mg "enumerate" = none
  n_int : mg "int" = none
  n_isinstance : mg "isinstance" = none
  n_len : mg "len" = none
  n_list : mg "list" = none
  n_min : mg "min" = none
  n_range : mg "range" = none
  n_str : mg "str" = none
  n_sum : mg "sum" = none
  c_MOST : ∃ t, mg "MOST" = some (.int 200 t)

def sp_is_number (K : PySem.W.Frag) : Sp := fun vs H Q _ => ∃ i : Int, vs = [.int i] ∧ RetV (.bl true) H Q
theorem spv_is_number {K : PySem.W.Frag} {H : Hp} {i : Int} : SpV (sp_is_number K) [.int i] H (.bl true) := fun _ _ _ q _ => ⟨i, rfl, q⟩

def sp_asked_web (K : PySem.W.Frag) : Sp := fun vs H Q _ => ∃ (a : Addr) (n : Nat) (k : Rel), vs = [.ref a] ∧ WebAt K H a n k ∧ RetV .non H Q
theorem spv_asked_web {K : PySem.W.Frag} {H : Hp} {a : Addr} {n : Nat} {k : Rel} (h : WebAt K H a n k) : SpV (sp_asked_web K) [.ref a] H .non := fun _ e _ q _ => ⟨a, n, k, rfl, h.ex e, q⟩

def sp_alike (K : PySem.W.Frag) : Sp := fun vs H Q _ => ∃ (a : Addr) (n : Nat) (k : Rel), vs = [.ref a] ∧ WebAt K H a n k ∧ RetV (.int (alikeZ n k)) H Q
theorem spv_alike {K : PySem.W.Frag} {H : Hp} {a : Addr} {n : Nat} {k : Rel} (h : WebAt K H a n k) : SpV (sp_alike K) [.ref a] H (.int (alikeZ n k)) := fun _ e _ q _ => ⟨a, n, k, rfl, h.ex e, q⟩

def sp_asked_size (K : PySem.W.Frag) : Sp := fun vs H Q _ => ∃ i : Int, vs = [.int i] ∧ 0 ≤ i ∧ RetV .non H Q
theorem spv_asked_size {K : PySem.W.Frag} {H : Hp} {i : Int} (h : 0 ≤ i) : SpV (sp_asked_size K) [.int i] H .non := fun _ _ _ q _ => ⟨i, rfl, h, q⟩

def sp_fewest (K : PySem.W.Frag) : Sp := fun vs H Q _ => ∃ i : Int, vs = [.int i] ∧ 0 ≤ i ∧ i < 2 ^ 200 ∧ RetV (.int (fewestZ i)) H Q
theorem spv_fewest {K : PySem.W.Frag} {H : Hp} {i : Int} (h : 0 ≤ i) (h2 : i < 2 ^ 200) : SpV (sp_fewest K) [.int i] H (.int (fewestZ i)) := fun _ _ _ q _ => ⟨i, rfl, h, h2, q⟩

def sp_web_of (K : PySem.W.Frag) : Sp := fun vs H Q _ => ∃ n : Nat, vs = [.int (n : Nat)] ∧ n ≤ 200 ∧ RetL (webV n (wofK n)) H Q
theorem spl_web_of {K : PySem.W.Frag} {H : Hp} {n : Nat} (h : n ≤ 200) : SpL (sp_web_of K) [.int (n : Nat)] H (webV n (wofK n)) := fun _ _ _ q _ => ⟨n, rfl, h, q⟩

def sp_law_number (K : PySem.W.Frag) : Sp := fun vs H Q _ => ∃ c a w : Int, vs = [.int c, .int a, .int w] ∧ Bt 1100000 c ∧ 0 ≤ a ∧ a < 1000 ∧ RetV (.int (lawNum c a w)) H Q
theorem spv_law_number {K : PySem.W.Frag} {H : Hp} {c a w : Int} (h : Bt 1100000 c) (h0 : 0 ≤ a) (h1 : a < 1000) : SpV (sp_law_number K) [.int c, .int a, .int w] H (.int (lawNum c a w)) := fun _ _ _ q _ => ⟨c, a, w, rfl, h, h0, h1, q⟩

def sp_law_fewest (K : PySem.W.Frag) : Sp := fun vs H Q _ => ∃ i : Int, vs = [.int i] ∧ 0 ≤ i ∧ i < 2 ^ 200 ∧ RetV (.int (lawFew i)) H Q
theorem spv_law_fewest {K : PySem.W.Frag} {H : Hp} {i : Int} (h : 0 ≤ i) (h2 : i < 2 ^ 200) : SpV (sp_law_fewest K) [.int i] H (.int (lawFew i)) := fun _ _ _ q _ => ⟨i, rfl, h, h2, q⟩

def sp_law_is_web (K : PySem.W.Frag) : Sp := fun vs H Q _ => ∃ (a : Addr) (n : Nat) (k : Rel), vs = [.ref a, .int (n : Nat)] ∧ WebAt K H a n k ∧ RetV (.bl true) H Q
theorem spv_law_is_web {K : PySem.W.Frag} {H : Hp} {a : Addr} {n : Nat} {k : Rel} (h : WebAt K H a n k) : SpV (sp_law_is_web K) [.ref a, .int (n : Nat)] H (.bl true) := fun _ e _ q _ => ⟨a, n, k, rfl, h.ex e, q⟩

/-- the law's place of a pair -/
def smP (i j : Nat) : Nat := i * (i - 1) / 2 + j
def smallK (m : Int) : Rel := fun i j => decide (i ≠ j) && decide (m / 2 ^ smP (max i j) (min i j) % 2 = 1)
theorem smallK_w (n : Nat) (m : Int) : IsW n (smallK m) := by
  refine ⟨fun i j _ _ => ?_, fun i _ => by simp [smallK]⟩
  unfold smallK
  rw [Nat.max_comm, Nat.min_comm]
  congr 1
  exact decide_eq_decide.mpr ne_comm
def sp_law_small (K : PySem.W.Frag) : Sp := fun vs H Q _ => ∃ (n : Nat) (m : Int), vs = [.int (n : Nat), .int m] ∧ n ≤ 100 ∧ RetL (webV n (smallK m)) H Q
theorem spl_law_small {K : PySem.W.Frag} {H : Hp} {n : Nat} {m : Int} (h : n ≤ 100) : SpL (sp_law_small K) [.int (n : Nat), .int m] H (webV n (smallK m)) := fun _ _ _ q _ => ⟨n, m, rfl, h, q⟩
/-- what is told behind the pairs up to (i, j) -/
def smDone (i j a b : Nat) : Bool := decide (max a b < i) || (decide (max a b = i) && decide (min a b < j))
theorem smP_succ (i j : Nat) : smP i (j + 1) = smP i j + 1 := by unfold smP; omega
theorem smP_row (i : Nat) : smP (i + 1) 0 = smP i i := by
  unfold smP
  have : (i + 1) * (i + 1 - 1) = i * (i - 1) + i * 2 := by
    cases i with
    | zero => rfl
    | succ i => simp; grind
  rw [this, Nat.add_mul_div_right _ _ (by decide)]
  omega
theorem sm_half (m : Int) (p : Nat) : m / 2 ^ p / 2 = m / 2 ^ (p + 1) := by
  rw [Int.ediv_ediv_of_nonneg (Int.pow_nonneg (by decide)), ← Int.pow_succ]

def sp_law (K : PySem.W.Frag) : Sp := fun vs H Q _ => ∃ (a : Addr) (ns : List Int), vs = [.ref a] ∧ SqL K H a (ns.map V.int) ∧ ns.length ≤ 63 ∧ (∀ z ∈ ns, Bt 1048576 z) ∧ RetV (.bl true) H Q
theorem few_rows : [fewestZ 0, fewestZ 1, fewestZ 2, fewestZ 3, fewestZ 4, fewestZ 5, fewestZ 6, fewestZ 7, fewestZ 8] = [0, 0, 0, 0, 0, 0, 2, 4, 8] := by decide +kernel
theorem small_zero (fw : Nat) (h : fw = 3 ∨ fw = 4) : ∃ x, x < (if fw = 3 then 8 else 64) ∧ alikeN fw (smallK (x : Nat)) = 0 := by
  rcases h with h | h
  · subst h; exact ⟨1, by decide, by decide +kernel⟩
  · subst h; exact ⟨37, by decide, by decide +kernel⟩
theorem ok_is_number {P : Program} {w : World} {K : PySem.W.Frag} {mg : Str → Option Value} {base : Heap} (T : Txt K mg) (D : At K mg "is_number" s_is_number ["thing"])  : Has P w K mg base CX0 1 "is_number" ["thing"] (sp_is_number K) := by
  refine has_of D sc_is_number (fun vs H Q E h => ?_) (fun f cdv A outer s H vs Q E hr h => ?_)
  · obtain ⟨i, rfl, _⟩ := h
    rfl
  · obtain ⟨i, rfl, hq⟩ := h
    refine ⟨_, (pss_one (ps_ret (pe_and (pe_callB (cr_isiK K) (by rfl) T.n_isinstance (by decide +kernel) (pa_cons (pv 0) (pa_cons (bty "int" T.n_int (by decide +kernel)) pa_nil))) (pe_one (pe_not (pe_callB (cr_isiK K) (by rfl) T.n_isinstance (by decide +kernel) (pa_cons (pv 0) (pa_cons (bty "bool" T.n_bool (by decide +kernel)) pa_nil)))))))), ?_⟩
    exact s_ret (ev_andV (ev_isInt (ev_var rfl)) fun _ => ev_notV (ev_isBoolI (ev_var rfl))) fun H1 e1 => hq H1 e1
theorem ok_asked_web {P : Program} {w : World} {K : PySem.W.Frag} {mg : Str → Option Value} {base : Heap} (T : Txt K mg) (D : At K mg "asked_web" s_asked_web ["web"])  : Has P w K mg base CX0 1 "asked_web" ["web"] (sp_asked_web K) := by
  refine has_of D sc_asked_web (fun vs H Q E h => ?_) (fun f cdv A outer s H vs Q E hr h => ?_)
  · obtain ⟨a, n, k, rfl, _⟩ := h
    rfl
  · obtain ⟨a, n, k, rfl, hw, hq⟩ := h
    have hn := hw.le
    refine ⟨_, (pss_cons (ps_if (PW.pt (pw_or (pt_not (pt_val (pe_callB (cr_isiK K) (by rfl) T.n_isinstance (by decide +kernel) (pa_cons (pv 0) (pa_cons (bty "list" T.n_list (by decide +kernel)) pa_nil))))) (pw_or (pt_cmpR op_gt (pe_callB (cr_lenK K) (by rfl) T.n_len (by decide +kernel) (pa_cons (pv 0) pa_nil)) (gconst T.c_MOST) (nomark _)) (pw_or1 (pt_not (pt_val (pe_callB (cr_allK K rfl) (by rfl) T.n_all (by decide +kernel) (pa_cons (pe_lc (own := [("row", 2)]) rfl sc_asked_web.nd (pi_listK K (pv 0)) (blkOk_by (by kernel_rfl)) (fun _ _ _ _ _ => (nm 2 sc_asked_web.nd)) (fun _ _ _ _ _ => pts_nil) (fun _ _ _ _ _ => (pe_callB (cr_isiK K) (by rfl) T.n_isinstance (by decide +kernel) (pa_cons (pv 2) (pa_cons (bty "str" T.n_str (by decide +kernel)) pa_nil))))) pa_nil)))))))) (pss_one ps_never) pss_nil)
      (pss_cons (ps_for PassesOwn.never rfl (pi_enumK K T.n_enumerate (pa_cons (pv 0) pa_nil)) (pg_tupK K rfl (pgs_cons (nm 1 sc_asked_web.nd) (pgs_cons (nm 2 sc_asked_web.nd) pgs_nil))) (pss_one (ps_if (PW.pt (pw_or (pt_cmpR op_ne (pe_callB cr_lenZ (by rfl) T.n_len (by decide +kernel) (pa_cons (pv 2) pa_nil)) (pe_callB (cr_lenK K) (by rfl) T.n_len (by decide +kernel) (pa_cons (pv 0) pa_nil)) (nomark _)) (pw_or (pt_cmpR op_ne (bmK K PySem.F.plainAttrs_str PySem.F.slot_str_strip PySem.F.type_str_strip mt_stripC (pv 2) (pa_cons pe_str pa_nil)) pe_str (nomark _)) (pw_or1 (pt_cmpR op_ne (pe_ix ix_str (pv 2) (pv 1) (fun _ _ => rfl)) pe_str (nomark _)))))) (pss_one ps_never) pss_nil)))
      (pss_one (ps_for PassesOwn.never rfl (pi_range1 rfl T.n_range (pa_cons (pe_callB (cr_lenK K) (by rfl) T.n_len (by decide +kernel) (pa_cons (pv 0) pa_nil)) pa_nil)) (nm 1 sc_asked_web.nd) (pss_one (ps_if (pt_val (pe_callB (cr_anyK K rfl) (by rfl) T.n_any (by decide +kernel) (pa_cons (pe_lc (own := [("other", 3)]) rfl sc_asked_web.nd (pi_range1 rfl T.n_range (pa_cons (pv 1) pa_nil)) (blkOk_by (by kernel_rfl)) (fun _ _ _ _ _ => (nm 3 sc_asked_web.nd)) (fun _ _ _ _ _ => pts_nil) (fun _ _ _ _ _ => (pe_cmpR op_ne (pe_ix ix_str (pe_ix (ix_listK K) (pv 0) (pv 1) (fun _ _ => rfl)) (pv 3) (fun _ _ => rfl)) (pe_ix ix_str (pe_ix (ix_listK K) (pv 0) (pv 3) (fun _ _ => rfl)) (pv 1) (fun _ _ => rfl)) (nomark _)))) pa_nil))) (pss_one ps_never) pss_nil)))))), ?_⟩
    refine q_when (b := false) (et_is (et_or (et_not (et_B (ev_isList (ev_var rfl) hw.seq (Ex.refl _)))) fun _ => et_or (et_test (ev_op (ev_lenW hw.seq (Ex.refl _) (ev_var rfl)) ev_c rv_I0)) fun _ =>
      et_not (et_B (ev_allR (el_map (fun i => V.bl true) (ew_web hw.seq (Ex.refl _) (ev_var rfl)) (by omega) (fun _ => rfl) fun i H1 e1 hi => ev_isStr (ev_var rfl))))) ?_) (bl_false rfl) fun _ H1 e1 => ?_
    · simp; omega
    have w1 := hw.ex e1
    refine q_for2 (ew_enumW w1.seq (Ex.refl _) (ea_cons (ev_var rfl) ea_nil)) (fun i σ' H' => Ex H1 H' ∧ ∃ u v, σ' = [some (.ref a), u, v, none]) (fun H2 e2 => ⟨e2, _, _, rfl⟩) (fun i σ' H' _ p => p.1) (fun i σ' H' T hi p hT => ?_) fun σ' H' p => ?_
    · obtain ⟨e2, u, v, rfl⟩ := p
      have e3 := e2.trans (Ex.new (o := .tup [V.int (i : Nat), V.str (rowS n (k i))]) hT)
      refine s_when (b := false) (et_is (et_or (et_test (ev_neI (ev_lenRow (ev_var rfl) hn) (ev_lenW w1.seq e3 (ev_var rfl)))) fun _ => et_or (et_test (ev_op (ev_stripRow (ev_var rfl) ev_c hn) ev_c (rv_ne rfl))) fun _ =>
        et_test (ev_neD (ev_op (ev_var rfl) (ev_var rfl) (rv_row hi hn)) ev_c)) ?_) (bl_false rfl) fun _ H3 e4 => ⟨e3.trans e4, _, _, rfl⟩
      simp [hw.w.irr i hi]
    obtain ⟨e2, u, v, rfl⟩ := p
    refine s_for (Hw := H1) (ew_rng1 (ea_cons (ev_lenW w1.seq e2 (ev_var rfl)) ea_nil) (by omega)) (fun i σ' H' => Ex H1 H' ∧ ∃ u, σ' = [some (.ref a), u, v, none]) (fun H2 e3 => ⟨e2.trans e3, _, rfl⟩) (fun i σ' H' _ p => p.1) (fun i σ' H' hi p => ?_) fun σ' H' p => ?_
    · obtain ⟨e3, u, rfl⟩ := p
      refine s_when (b := false) (et_is (et_B (ev_anyR (el_map (fun j => V.bl (k i j != k j i)) (ew_rng1 (ea_cons (ev_var rfl) ea_nil) (by omega)) (by omega) (fun _ => rfl) fun j H4 e4 hj =>
        ev_neSg (ev_cell w1.seq (e3.trans e4) hn (ev_var rfl) (ev_var rfl) (ev_var rfl) hi (by omega)) (ev_cell w1.seq (e3.trans e4) hn (ev_var rfl) (ev_var rfl) (ev_var rfl) (by omega) hi)))) ?_) (bl_false rfl) fun _ H4 e4 => ⟨e3.trans e4, _, rfl⟩
      rw [List.any_eq_false]
      intro j hj
      rw [hw.w.sym i j hi (by have := List.mem_range.mp hj; omega)]
      simp
    exact hq H' (e1.trans p.1)
theorem ok_alike {P : Program} {w : World} {K : PySem.W.Frag} {mg : Str → Option Value} {base : Heap} (T : Txt K mg) (D : At K mg "alike" s_alike ["web"]) (h_asked_web : Has P w K mg base CX0 1 "asked_web" ["web"] (sp_asked_web K)) : Has P w K mg base CX0 2 "alike" ["web"] (sp_alike K) := by
  refine has_of D sc_alike (fun vs H Q E h => ?_) (fun f cdv A outer s H vs Q E hr h => ?_)
  · obtain ⟨a, n, k, rfl, _⟩ := h
    rfl
  · obtain ⟨a, n, k, rfl, hw, hq⟩ := h
    have hn := hw.le
    have dg : ∀ i, 0 ≤ deg n k i ∧ deg n k i ≤ n := fun i => ⟨deg_nn n k i, deg_le n k i⟩
    refine ⟨_, (pss_cons (ps_expr (hcall h_asked_web (hr.mono (by decide)) (pa_cons (pv 0) pa_nil)))
      (pss_cons (st_ 1 sc_alike.nd (pe_callB (cr_lenK K) (by rfl) T.n_len (by decide +kernel) (pa_cons (pv 0) pa_nil)))
      (pss_cons (st_ 2 sc_alike.nd (pe_callB (cr_sumK K rfl) (by rfl) T.n_sum (by decide +kernel) (pa_cons (pe_lc (own := [("row", 3)]) rfl sc_alike.nd (pi_listK K (pv 0)) (blkOk_by (by kernel_rfl)) (fun _ _ _ _ _ => (nm 3 sc_alike.nd)) (fun _ _ _ _ _ => pts_nil) (fun _ _ _ _ _ => (pe_op op_mulA (bmK K PySem.F.plainAttrs_str PySem.F.slot_str_count PySem.F.type_str_count mt_cnt (pv 3) (pa_cons pe_str pa_nil)) (pe_op op_sub (pe_op op_sub (pv 1) pe_int) (bmK K PySem.F.plainAttrs_str PySem.F.slot_str_count PySem.F.type_str_count mt_cnt (pv 3) (pa_cons pe_str pa_nil)))))) pa_nil)))
      (pss_one (ps_ret (pe_op op_sub (pe_op op_fdiv (pe_op op_mulA (pe_op op_mulA (pv 1) (pe_op op_sub (pv 1) pe_int)) (pe_op op_sub (pv 1) pe_int)) pe_int) (pe_op op_fdiv (pv 2) pe_int))))))), ?_⟩
    refine q_drop (ev_hc (ea_cons (ev_var rfl) ea_nil) (spv_asked_web hw)) fun H1 e1 => ?_
    refine q_asg (ev_lenW hw.seq e1 (ev_var rfl)) fun H2 e2 => ?_
    refine q_asg (ev_sumR (el_map (fun i => V.int (deg n k i * ((n : Int) - 1 - deg n k i))) (ew_web (ex_l (e1.trans e2) hw.seq) (Ex.refl _) (ev_var rfl)) (by omega) (fun _ => rfl) fun i H3 e3 hi => ev_mulA (ev_cntRow (ev_var rfl) ev_c) (ev_op (ev_op (ev_var rfl) ev_c rv_I0) (ev_cntRow (ev_var rfl) ev_c) rv_I0) (mul_small (.inl ?_)))) fun H3 e3 => ?_
    · have := dg i; show (deg n k i).natAbs < _; omega
    refine s_ret (ev_op (ev_fdiv (ev_mulA (ev_mulA (ev_var rfl) (ev_op (ev_var rfl) ev_c rv_I0) (mul_small (.inl ?_))) (ev_op (ev_var rfl) ev_c rv_I0) (mul_small (.inr ?_))) ev_c ⟨by decide, by decide⟩) (ev_fdiv (ev_var rfl) ev_c ⟨by decide, by decide⟩) rv_I0) fun H4 e4 => ?_
    · omega
    · omega
    exact hq H4 (((e1.trans e2).trans e3).trans e4)
theorem ok_asked_size {P : Program} {w : World} {K : PySem.W.Frag} {mg : Str → Option Value} {base : Heap} (T : Txt K mg) (D : At K mg "asked_size" s_asked_size ["size"]) (h_is_number : Has P w K mg base CX0 1 "is_number" ["thing"] (sp_is_number K)) : Has P w K mg base CX0 2 "asked_size" ["size"] (sp_asked_size K) := by
  refine has_of D sc_asked_size (fun vs H Q E h => ?_) (fun f cdv A outer s H vs Q E hr h => ?_)
  · obtain ⟨i, rfl, _⟩ := h
    rfl
  · obtain ⟨i, rfl, hi, hq⟩ := h
    refine ⟨_, (pss_one (ps_if (PW.pt (pw_or (pt_not (pt_val (hcall h_is_number (hr.mono (by decide)) (pa_cons (pv 0) pa_nil)))) (pw_or1 (pt_cmpR op_lt (pv 0) pe_int (nomark _))))) (pss_one ps_never) pss_nil)), ?_⟩
    refine s_when (b := false) (et_is (et_or (et_not (et_B (ev_hc (ea_cons (ev_var rfl) ea_nil) spv_is_number))) fun _ => et_test (ev_op (ev_var rfl) ev_c rv_I0)) (by simp [hi])) (bl_false rfl) fun _ H1 e1 => ?_
    exact hq H1 e1
theorem ok_fewest {P : Program} {w : World} {K : PySem.W.Frag} {mg : Str → Option Value} {base : Heap} (T : Txt K mg) (D : At K mg "fewest" s_fewest ["size"]) (h_asked_size : Has P w K mg base CX0 2 "asked_size" ["size"] (sp_asked_size K)) : Has P w K mg base CX0 3 "fewest" ["size"] (sp_fewest K) := by
  refine has_of D sc_fewest (fun vs H Q E h => ?_) (fun f cdv A outer s H vs Q E hr h => ?_)
  · obtain ⟨i, rfl, _⟩ := h
    rfl
  · obtain ⟨i, rfl, hi, hb, hq⟩ := h
    have m1 : ∀ a : Int, -10 ≤ a → a ≤ i + 10 → ∀ b : Int, -10 ≤ b → b ≤ i + 10 → IntMulOk a b := fun a a1 a2 b b1 b2 => mulok (m := 202) (n := 202) (by omega) (by omega) (by decide)
    have m2 : ∀ a : Int, -10 ≤ a → a ≤ i + 10 → ∀ b : Int, -10 ≤ b → b ≤ i + 10 → ∀ c : Int, -10 ≤ c → c ≤ i + 10 → IntMulOk (a * b) c := fun a a1 a2 b b1 b2 c c1 c2 => mulok (m := 404) (n := 202) (mul_bd (m := 202) (n := 202) (by omega) (by omega)) (by omega) (by decide)
    have cd : CDiv 1 24 := ⟨by decide, by decide⟩
    refine ⟨_, (pss_cons (ps_expr (hcall h_asked_size (hr.mono (by decide)) (pa_cons (pv 0) pa_nil)))
      (pss_cons (ps_if (pt_cmpR op_eq (pe_op op_mod (pv 0) pe_int) pe_int (nomark _)) (pss_one (ps_ret (pe_op op_fdiv (pe_op op_mulA (pe_op op_mulA (pv 0) (pe_op op_sub (pv 0) pe_int)) (pe_op op_sub (pv 0) pe_int)) pe_int))) pss_nil)
      (pss_cons (ps_if (pt_cmpR op_eq (pe_op op_mod (pv 0) pe_int) pe_int (nomark _)) (pss_one (ps_ret (pe_op op_fdiv (pe_op op_mulA (pe_op op_mulA (pv 0) (pe_op op_sub (pv 0) pe_int)) (pe_op op_sub (pv 0) pe_int)) pe_int))) pss_nil)
      (pss_one (ps_ret (pe_op op_fdiv (pe_op op_mulA (pe_op op_mulA (pe_op op_add (pv 0) pe_int) (pe_op op_sub (pv 0) pe_int)) (pe_op op_sub (pv 0) pe_int)) pe_int)))))), ?_⟩
    refine q_drop (ev_hc (ea_cons (ev_var rfl) ea_nil) (spv_asked_size hi)) fun H1 e1 => ?_
    refine q_when (b := decide (i % 2 = 0)) (et_test (ev_eqI (ev_mod (ev_var rfl) ev_c (by decide)) ev_c)) (fun hb H2 e2 => ?_) fun hb H2 e2 => ?_
    · refine s_ret (ev_fdiv (ev_mulA (ev_mulA (ev_var rfl) (ev_op (ev_var rfl) ev_c rv_I0) (m1 _ ?_ ?_ _ ?_ ?_)) (ev_op (ev_var rfl) ev_c rv_I0) (m2 _ ?_ ?_ _ ?_ ?_ _ ?_ ?_)) ev_c ⟨by decide, by decide⟩) fun H3 e3 => ?_ <;> first | omega | skip
      have e : fewestZ i = i * (i - 2) * (i - 4) / 24 := by unfold fewestZ; rw [if_pos (of_decide_eq_true hb)]
      exact e ▸ hq H3 ((e1.trans e2).trans e3)
    have hb' := of_decide_eq_false hb
    refine q_when (b := decide (i % 4 = 1)) (et_test (ev_eqI (ev_mod (ev_var rfl) ev_c (by decide)) ev_c)) (fun hc H3 e3 => ?_) fun hc H3 e3 => ?_
    · refine s_ret (ev_fdiv (ev_mulA (ev_mulA (ev_var rfl) (ev_op (ev_var rfl) ev_c rv_I0) (m1 _ ?_ ?_ _ ?_ ?_)) (ev_op (ev_var rfl) ev_c rv_I0) (m2 _ ?_ ?_ _ ?_ ?_ _ ?_ ?_)) ev_c ⟨by decide, by decide⟩) fun H4 e4 => ?_ <;> first | omega | skip
      have e : fewestZ i = i * (i - 1) * (i - 5) / 24 := by unfold fewestZ; rw [if_neg hb', if_pos (of_decide_eq_true hc)]
      exact e ▸ hq H4 (((e1.trans e2).trans e3).trans e4)
    · refine s_ret (ev_fdiv (ev_mulA (ev_mulA (ev_op (ev_var rfl) ev_c rv_I0) (ev_op (ev_var rfl) ev_c rv_I0) (m1 _ ?_ ?_ _ ?_ ?_)) (ev_op (ev_var rfl) ev_c rv_I0) (m2 _ ?_ ?_ _ ?_ ?_ _ ?_ ?_)) ev_c ⟨by decide, by decide⟩) fun H4 e4 => ?_ <;> first | omega | skip
      have e : fewestZ i = (i + 1) * (i - 3) * (i - 4) / 24 := by unfold fewestZ; rw [if_neg hb', if_neg (of_decide_eq_false hc)]
      exact e ▸ hq H4 (((e1.trans e2).trans e3).trans e4)
theorem ok_web_of {P : Program} {w : World} {K : PySem.W.Frag} {mg : Str → Option Value} {base : Heap} (T : Txt K mg) (D : At K mg "web_of" s_web_of ["size"]) (h_asked_size : Has P w K mg base CX0 2 "asked_size" ["size"] (sp_asked_size K)) : Has P w K mg base CX0 3 "web_of" ["size"] (sp_web_of K) := by
  refine has_of D sc_web_of (fun vs H Q E h => ?_) (fun f cdv A outer s H vs Q E hr h => ?_)
  · obtain ⟨n, rfl, _⟩ := h
    rfl
  · obtain ⟨n, rfl, hn, hq⟩ := h
    refine ⟨_, (pss_cons (ps_expr (hcall h_asked_size (hr.mono (by decide)) (pa_cons (pv 0) pa_nil)))
      (pss_cons (ps_if (pt_cmpR op_gt (pv 0) (gconst T.c_MOST) (nomark _)) (pss_one ps_never) pss_nil)
      (pss_cons (st_ 1 sc_web_of.nd (pe_op op_fdiv (pv 0) pe_int))
      (pss_cons (st_ 2 sc_web_of.nd (pe_op op_fdiv (pv 0) pe_int))
      (pss_cons (st_ 3 sc_web_of.nd (pe_lst pa_nil))
      (pss_cons (ps_for PassesOwn.never rfl (pi_range1 rfl T.n_range (pa_cons (pv 0) pa_nil)) (nm 4 sc_web_of.nd) (pss_cons (st_ 5 sc_web_of.nd (pe_lst pa_nil))
      (pss_cons (ps_for PassesOwn.never rfl (pi_range1 rfl T.n_range (pa_cons (pv 0) pa_nil)) (nm 6 sc_web_of.nd) (pss_cons (st_ 7 sc_web_of.nd (pe_callB (cr_min2 rfl) (by rfl) T.n_min (by decide +kernel) (pa_cons (pe_op op_mod (pe_op op_sub (pv 4) (pv 6)) (pv 0)) (pa_cons (pe_op op_mod (pe_op op_sub (pv 6) (pv 4)) (pv 0)) pa_nil))))
      (pss_cut (ps_if (pt_cmpR op_eq (pe_op op_mod (pv 0) pe_int) pe_int (nomark _)) (pss_one (st_ 8 sc_web_of.nd (pe_and (pe_cmpR op_eq (pe_op op_fdiv (pv 4) (pv 2)) (pe_op op_fdiv (pv 6) (pv 2)) (nomark _)) (pe_one (pe_cmpR op_ne (pv 4) (pv 6) (nomark _)))))) (pss_one (st_ 8 sc_web_of.nd (pe_chain op_lt op_le pe_int (pv 7) (pv 1)))))
      (pss_one (ps_expr (bmK K PySem.F.plainAttrs_list PySem.F.slot_list_append PySem.F.type_list_append mt_append (pv 5) (pa_cons (pe_ifExp (pt_val (pv 8)) pe_str pe_str) pa_nil)))))))
      (pss_one (ps_expr (bmK K PySem.F.plainAttrs_list PySem.F.slot_list_append PySem.F.type_list_append mt_append (pv 3) (pa_cons (pv 5) pa_nil)))))))
      (pss_cut (ps_if (pt_cmpR op_eq (pe_op op_mod (pv 0) pe_int) pe_int (nomark _)) (pss_one (ps_for PassesOwn.never rfl (pi_range3 rfl T.n_range (pa_cons pe_int (pa_cons (pe_op op_sub (pv 0) pe_int) (pa_cons pe_int pa_nil)))) (nm 9 sc_web_of.nd) (pss_cons (ps_par (i := 4) (j := 6) rfl sc_web_of.nd rfl rfl (by decide) rfl rfl (pa_cons (pe_op op_mod (pe_op op_mulA (pv 9) (pv 2)) (pv 0)) (pa_cons (pe_op op_mod (pe_op op_mulA (pe_op op_add (pv 9) pe_int) (pv 2)) (pv 0)) pa_nil)) (by rfl))
      (pss_cons (ps_asg pe_str (pg_sub (pe_ix (ix_listK K) (pv 3) (pv 4) (fun _ _ => rfl)) (pv 6) set_list))
      (pss_one (ps_asg pe_str (pg_sub (pe_ix (ix_listK K) (pv 3) (pv 6) (fun _ _ => rfl)) (pv 4) set_list))))))) pss_nil)
      (pss_one (ps_ret (pe_lc (own := [("signs", 5)]) rfl sc_web_of.nd (pi_listK K (pv 3)) (blkOk_by (by kernel_rfl)) (fun _ _ _ _ _ => (nm 5 sc_web_of.nd)) (fun _ _ _ _ _ => pts_nil) (fun _ _ _ _ _ => (bmK K PySem.F.plainAttrs_str PySem.F.slot_str_join PySem.F.type_str_join (mt_joinK K) pe_str (pa_cons (pv 5) pa_nil))))))))))))), ?_⟩
    refine q_drop (ev_hc (ea_cons (ev_var rfl) ea_nil) (spv_asked_size (by omega))) fun H1 e1 => ?_
    refine q_when (b := false) (et_is (et_test (ev_op (ev_var rfl) ev_c rv_I0)) (by simp; omega)) (bl_false rfl) fun _ H2 e2 => ?_
    refine q_asg (ev_fdiv (ev_var rfl) ev_c ⟨by decide, by decide⟩) fun H3 e3 => ?_
    refine q_asg (ev_fdiv (ev_var rfl) ev_c ⟨by decide, by decide⟩) fun H4 e4 => ?_
    refine q_asgL (el_lst ea_nil (by decide)) fun l H5 hl0 e5 hl => ?_
    have e04 : Ex H H4 := ((e1.trans e2).trans e3).trans e4
    refine q_for (Hw := H4) (ew_rng1 (ea_cons (ev_var rfl) ea_nil) (by omega)) (fun i σ' H' => Ex H4 H' ∧ ∃ ps, ps.length = i ∧ RowsP H4 H' l ps (fun a => sgRow n (wof0 n a)) ∧ ∃ s4 s5 s6 s7 s8, σ' = [some (.int n), some (.int ((n : Int) / 4)), some (.int ((n : Int) / 2)), some (.ref l), s4, s5, s6, s7, s8, none])
      (fun H' e => ⟨e5.trans e, [], rfl, .nil hl0 (e _ _ hl), _, _, _, _, _, rfl⟩) (fun i σ' H' _ p => p.1) (fun i σ' H' hi p => ?_) fun σ' H' p => ?_
    · obtain ⟨ex, ps, hps, r, s4, s5, s6, s7, s8, rfl⟩ := p
      refine q_asgL (el_lst ea_nil (by decide)) fun p H6 hp0 e6 hp => ?_
      obtain ⟨n1, n2⟩ := r.ne hp0
      have fp := fresh_back ex hp0
      refine q_for (Hw := H4) (ew_rng1 (ea_cons (ev_var rfl) ea_nil) (by omega)) (fun j σ' H' => Ex H4 H' ∧ RowsP H4 H' l ps (fun a => sgRow n (wof0 n a)) ∧ H' p = some (.lst (sgRow j (wof0 n i))) ∧ ∃ s6 s7 s8, σ' = [some (.int n), some (.int ((n : Int) / 4)), some (.int ((n : Int) / 2)), some (.ref l), some (.int (i : Nat)), some (.ref p), s6, s7, s8, none])
        (fun H' e => ⟨(ex.trans e6).trans e, (r.ex e6).ex e, e _ _ hp, _, _, _, rfl⟩) (fun i σ' H' _ p => p.1) (fun j σ' H' hj q => ?_) fun σ' H' q => ?_
      · obtain ⟨ex, r, hp, s6, s7, s8, rfl⟩ := q
        refine q_asg (v := .int (apart n i j)) (ev_min2 (ev_mod (ev_op (ev_var rfl) (ev_var rfl) rv_I0) (ev_var rfl) (by omega)) (ev_mod (ev_op (ev_var rfl) (ev_var rfl) rv_I0) (ev_var rfl) (by omega))) fun H7 e7 => ?_
        refine q_cut (M := fun σ' H' => Ex H7 H' ∧ σ' = [some (.int n), some (.int ((n : Int) / 4)), some (.int ((n : Int) / 2)), some (.ref l), some (.int (i : Nat)), some (.ref p), some (.int (j : Nat)), some (.int (apart n i j)), some (.bl (wof0 n i j)), none]) ?_ fun σ' H8 c => ?_
        · refine s_if (b := decide ((n : Int) % 2 = 0)) (et_test (ev_eqI (ev_mod (ev_var rfl) ev_c (by decide)) ev_c)) (fun hb H8 e8 => ?_) fun hb H8 e8 => ?_
          · have hb' := of_decide_eq_true hb
            have ew : wof0 n i j = evenK ((n : Int) / 2) i j := by unfold wof0; rw [if_pos hb']
            rw [ew]
            refine s_asg (v := .bl (evenK ((n : Int) / 2) i j)) (ev_andV (ev_eqI (ev_fdiv (ev_var rfl) (ev_var rfl) ⟨by omega, by omega⟩) (ev_fdiv (ev_var rfl) (ev_var rfl) ⟨by omega, by omega⟩)) fun _ => ev_neI (ev_var rfl) (ev_var rfl)) fun H9 e9 => ⟨e8.trans e9, rfl⟩
          · have hb' := of_decide_eq_false hb
            have ew : wof0 n i j = ringK n ((n : Int) / 4) i j := by unfold wof0; rw [if_neg hb']
            rw [ew]
            refine s_asg (v := .bl (ringK n ((n : Int) / 4) i j)) (ev_chain ev_c (ev_var rfl) (ev_var rfl)) fun H9 e9 => ⟨e8.trans e9, rfl⟩
        · obtain ⟨e8, rfl⟩ := c
          have e78 := e7.trans e8
          refine s_app (xs := sgRow j (wof0 n i)) (e78 _ _ hp) (ev_var rfl) (ev_ifS (et_B (ev_var rfl))) (by rw [sgRow_len]; omega) fun H9 e9 => ?_
          refine ⟨Ex.mut ((ex.trans e78).trans e9) fp, ((r.ex e78).ex e9).keep n1 n2, ?_, _, _, _, rfl⟩
          rw [upd_same, sgRow_succ]
      · obtain ⟨ex, r, hp, s6, s7, s8, rfl⟩ := q
        refine s_app r.hl (ev_var rfl) (ev_var rfl) (by simp; omega) fun H9 e9 => ?_
        refine ⟨Ex.mut (ex.trans e9) hl0, ps ++ [p], by simp [hps], ?_, _, _, _, _, _, rfl⟩
        refine ((r.ex e9).app fp n1 n2 (e9 _ _ hp)).congr fun a ha => ?_
        by_cases c : a < ps.length
        · rw [if_pos c]
        · rw [if_neg c]
          have : a = i := by simp at ha; omega
          rw [this]
    obtain ⟨ex, ps, hps, r, s4, s5, s6, s7, s8, rfl⟩ := p
    refine q_cut (M := fun σ' H' => Ex H4 H' ∧ RowsP H4 H' l ps (fun a => sgRow n (wofK n a)) ∧ ∃ s4 s5 s6 s7 s8 s9, σ' = [some (.int n), some (.int ((n : Int) / 4)), some (.int ((n : Int) / 2)), some (.ref l), s4, s5, s6, s7, s8, s9]) ?_ fun σ' H8 c => ?_
    · refine s_when (b := decide ((n : Int) % 4 = 3)) (et_test (ev_eqI (ev_mod (ev_var rfl) ev_c (by decide)) ev_c)) (fun hb H6 e6 => ?_) fun hb H6 e6 => ?_
      · have hb' := of_decide_eq_true hb
        have h4 : n % 4 = 3 := by omega
        refine s_for (Hw := H4) (ew_rng3 (ea_cons ev_c (ea_cons (ev_op (ev_var rfl) ev_c rv_I0) (ea_cons ev_c ea_nil))) (rg_two h4 hn)) (fun s σ' H' => Ex H4 H' ∧ RowsP H4 H' l ps (fun a => sgRow n (fun b => wof0 n a b || mtS n s a b)) ∧ ∃ s4 s5 s6 s7 s8 s9, σ' = [some (.int n), some (.int ((n : Int) / 4)), some (.int ((n : Int) / 2)), some (.ref l), s4, s5, s6, s7, s8, s9])
          (fun H' e => ⟨(ex.trans e6).trans e, ((r.ex e6).ex e).congr fun a _ => sgRow_congr fun b _ => by simp [mtS], _, _, _, _, _, _, rfl⟩) (fun i σ' H' _ p => p.1) (fun s σ' H' hs q => ?_) fun σ' H' q => ?_
        · obtain ⟨ex, r, s4, s5, s6, s7, s8, s9, rfl⟩ := q
          have ma : mA n s < n := by unfold mA; split <;> omega
          have mb : mB n s < n := by unfold mB; omega
          refine q_par (v := .int (mA n s : Nat)) (w := .int (mB n s : Nat)) (ea_cons (ev_is (ev_mod (ev_mulA (ev_var rfl) (ev_var rfl) (mul_small (.inl (by omega)))) (ev_var rfl) (by omega)) (by rw [mA_eq h4 hs])) (ea_cons (ev_is (ev_mod (ev_mulA (ev_op (ev_var rfl) ev_c rv_I0) (ev_var rfl) (mul_small (.inl (by omega)))) (ev_var rfl) (by omega)) (by rw [mB_eq h4 hs])) ea_nil)) fun H7 e7 => ?_
          refine q_setRow (r.ex e7) ev_c (ev_var rfl) (ev_var rfl) (ev_var rfl) (by omega) (by rw [sgRow_len]; omega) fun H8 e8 p hp fp r8 => ?_
          refine s_setRow r8 ev_c (ev_var rfl) (ev_var rfl) (ev_var rfl) (by omega) (by split <;> simp [sgRow_len] <;> omega) fun H9 e9 p' hp' fp' r9 => ?_
          refine ⟨Ex.mut ((Ex.mut ((ex.trans e7).trans e8) fp).trans e9) fp', r9.congr fun a ha => ?_, _, _, _, _, _, _, rfl⟩
          have ne : mA n s ≠ mB n s := by unfold mA mB; split <;> omega
          rw [← sgS_x]
          simp only [sgRow_set]
          by_cases c1 : a = mB n s
          · subst c1
            simp only [if_true, if_neg ne.symm]
            rw [sgRow_set]
            refine sgRow_congr fun b _ => ?_
            simp [mtS, ne.symm]
            by_cases c2 : b = mA n s <;> simp [c2]
          · by_cases c2 : a = mA n s
            · subst c2
              simp only [if_true, if_neg c1]
              refine sgRow_congr fun b _ => ?_
              simp [mtS, ne]
              by_cases c3 : b = mB n s <;> simp [c3]
            · simp only [if_neg c1, if_neg c2]
              refine sgRow_congr fun b _ => ?_
              simp [mtS, c1, c2]
        · obtain ⟨ex, r, s4, s5, s6, s7, s8, s9, rfl⟩ := q
          refine ⟨ex, r.congr fun a _ => sgRow_congr fun b _ => ?_, _, _, _, _, _, _, rfl⟩
          unfold wofK
          rw [decide_eq_true hb', Bool.true_and]
      · have hb' := of_decide_eq_false hb
        refine ⟨ex.trans e6, (r.ex e6).congr fun a _ => sgRow_congr fun b _ => ?_, _, _, _, _, _, _, rfl⟩
        unfold wofK
        rw [decide_eq_false hb', Bool.false_and, Bool.or_false]
    · obtain ⟨ex, r, s4, s5, s6, s7, s8, s9, rfl⟩ := c
      exact s_retL (el_joinRows r hps hn (ev_var rfl) (fun _ => rfl) fun _ => rfl) fun p H9 hp e9 hp9 => hq p H9 (fresh_back (e04.trans ex) hp) ((e04.trans ex).trans e9) hp9
theorem ok_law_number {P : Program} {w : World} {K : PySem.W.Frag} {mg : Str → Option Value} {base : Heap} (T : Txt K mg) (D : At K mg "_law_number" s_law_number ["_law_cell", "_law_at", "_law_whole"])  : Has P w K mg base CX0 1 "_law_number" ["_law_cell", "_law_at", "_law_whole"] (sp_law_number K) := by
  refine has_of D sc_law_number (fun vs H Q E h => ?_) (fun f cdv A outer s H vs Q E hr h => ?_)
  · obtain ⟨c, a, w, rfl, _⟩ := h
    rfl
  · obtain ⟨c, a, w, rfl, hc, h0, h1, hq⟩ := h
    refine ⟨_, (pss_cons (ps_if (pt_cmpR op_ge (pv 0) (pe_op op_pow pe_int pe_int) (nomark _)) (pss_one (ps_ret (pv 0))) pss_nil)
      (pss_cons (st_ 3 sc_law_number.nd (pe_op op_mod (pe_op op_add (pe_op op_mulA (pe_op op_add (pv 0) (pe_op op_mulA pe_int (pv 1))) pe_int) (pv 2)) pe_int))
      (pss_cons (st_ 4 sc_law_number.nd (pe_op op_mulA (pv 3) (pe_op op_add (pe_op op_add (pv 0) (pe_op op_mulA pe_int (pv 1))) pe_int)))
      (pss_one (ps_ret (pe_op op_fdiv (pe_op op_mulA (pe_op op_mulA (pv 4) (pe_op op_add (pe_op op_add (pv 3) (pv 0)) pe_int)) (pe_op op_add (pe_op op_mulA (pv 3) (pv 3)) pe_int)) (pe_op op_add pe_int (pv 1)))))))), ?_⟩
    have p18 : ((10 : Int) ^ (18 : Int).toNat) = 10 ^ 18 := rfl
    refine q_when (b := decide (10 ^ 18 ≤ c)) (et_test (ev_op (ev_var rfl) (ev_op ev_c ev_c (rv_I ⟨by decide, by decide, by decide⟩)) rv_I0)) (fun hb H1 e1 => ?_) fun hb H1 e1 => ?_
    · have hb' := of_decide_eq_true hb
      have e : lawNum c a w = c := by unfold lawNum; rw [if_pos hb']
      refine s_ret (ev_var rfl) fun H2 e2 => ?_
      have := hq H2 (e1.trans e2)
      rw [e] at this
      exact this
    · have hb' := of_decide_eq_false hb
      have bs : ∀ x : Int, -4294967296 < x → x < 4294967296 → Bt 1100000 x := fun x a b => Bt.small _ a b
      have b1 : Bt 1100001 (c + 977 * a) := hc.add (bs _ (by omega) (by omega))
      refine q_asg (ev_mod (ev_op (ev_mulA (ev_op (ev_var rfl) (ev_mulA ev_c (ev_var rfl) (mul_small (.inl (by decide)))) rv_I0) ev_c (mul_small (.inr (by decide)))) (ev_var rfl) rv_I0) ev_c (by decide)) fun H2 e2 => ?_
      generalize hm : ((c + 977 * a) * 48271 + w) % 2147483647 = m
      have m0 : 0 ≤ m := by rw [← hm]; exact Int.emod_nonneg _ (by decide)
      have m1 : m < 2147483647 := by rw [← hm]; exact Int.emod_lt_of_pos _ (by decide)
      have b2 : Bt 1100002 (c + 31 * a + 7) := ((hc.add (bs _ (by omega) (by omega))).add ((bs _ (by omega) (by omega)).mono (by decide)))
      refine q_asg (ev_mulA (ev_var rfl) (ev_op (ev_op (ev_var rfl) (ev_mulA ev_c (ev_var rfl) (mul_small (.inl (by decide)))) rv_I0) ev_c rv_I0) (mul_small (.inl (by omega)))) fun H3 e3 => ?_
      have b3 : Bt 1100100 (m * (c + 31 * a + 7)) := ((Bt.small 32 (by omega) (by omega) : Bt 32 m).mul b2).mono (by decide)
      have b4 : Bt 1100002 (m + c + 5) := (((bs _ (by omega) (by omega)).add hc).add ((bs _ (by omega) (by omega)).mono (by decide)))
      have b5 : Bt 2200200 (m * (c + 31 * a + 7) * (m + c + 5)) := (b3.mul b4).mono (by decide)
      have b6 : Bt 100 (m * m + 11) := ((((Bt.small 32 (by omega) (by omega) : Bt 32 m).mul (Bt.small 32 (by omega) (by omega) : Bt 32 m))).add (Bt.small 64 (by omega) (by omega))).mono (by decide)
      refine s_ret (ev_fdiv (ev_mulA (ev_mulA (ev_var rfl) (ev_op (ev_op (ev_var rfl) (ev_var rfl) rv_I0) ev_c rv_I0) (b3.ok b4)) (ev_op (ev_mulA (ev_var rfl) (ev_var rfl) (mul_small (.inl (by omega)))) ev_c rv_I0) (b5.ok b6)) (ev_op ev_c (ev_var rfl) rv_I0) ⟨by omega, by omega⟩) fun H4 e4 => ?_
      have e : lawNum c a w = m * (c + 31 * a + 7) * (m + c + 5) * (m * m + 11) / (1009 + a) := by unfold lawNum; rw [if_neg hb', hm]
      have := hq H4 (((e1.trans e2).trans e3).trans e4)
      rw [e] at this
      exact this
theorem ok_law_fewest {P : Program} {w : World} {K : PySem.W.Frag} {mg : Str → Option Value} {base : Heap} (T : Txt K mg) (D : At K mg "_law_fewest" s_law_fewest ["_law_size"])  : Has P w K mg base CX0 1 "_law_fewest" ["_law_size"] (sp_law_fewest K) := by
  refine has_of D sc_law_fewest (fun vs H Q E h => ?_) (fun f cdv A outer s H vs Q E hr h => ?_)
  · obtain ⟨i, rfl, _⟩ := h
    rfl
  · obtain ⟨i, rfl, hi, hb, hq⟩ := h
    have bd : ∀ a : Int, -10 ≤ a → a ≤ i + 10 → Bt 202 a := fun a a1 a2 => by unfold Bt; omega
    refine ⟨_, (pss_cons (st_ 1 sc_law_fewest.nd (pe_op op_fdiv (pe_op op_sub (pv 0) pe_int) pe_int))
      (pss_cons (st_ 2 sc_law_fewest.nd (pe_op op_mulA (pe_op op_mulA (pv 0) (pv 1)) (pe_op op_sub (pe_op op_sub (pv 0) pe_int) (pv 1))))
      (pss_cons (ps_if (pt_cmpR op_eq (pe_op op_mod (pv 0) pe_int) pe_int (nomark _)) (pss_one (st_ 2 sc_law_fewest.nd (pe_op op_add (pe_op op_sub (pv 2) (pe_op op_mulA (pv 1) (pv 1))) (pe_op op_mulA (pe_op op_sub (pv 1) pe_int) (pe_op op_sub (pv 0) (pv 1)))))) pss_nil)
      (pss_one (ps_ret (pe_op op_fdiv (pe_op op_sub (pe_op op_fdiv (pe_op op_mulA (pe_op op_mulA (pv 0) (pe_op op_sub (pv 0) pe_int)) (pe_op op_sub (pv 0) pe_int)) pe_int) (pv 2)) pe_int)))))), ?_⟩
    refine q_asg (v := .int ((i - 1) / 2)) (ev_fdiv (ev_op (ev_var rfl) ev_c rv_I0) ev_c ⟨by decide, by decide⟩) fun H1 e1 => ?_
    generalize hf : (i - 1) / 2 = f
    have f1 : -1 ≤ f := by omega
    have f2 : f ≤ i := by omega
    have bi := bd i (by omega) (by omega)
    have bf := bd f (by omega) (by omega)
    have bg := bd (i - 1 - f) (by omega) (by omega)
    refine q_asg (v := .int (i * f * (i - 1 - f))) (ev_mulA (ev_mulA (ev_var rfl) (ev_var rfl) (bi.ok bf)) (ev_op (ev_op (ev_var rfl) ev_c rv_I0) (ev_var rfl) rv_I0) ((bi.mul bf).ok bg)) fun H2 e2 => ?_
    have fin : ∀ (m : Int) (H3 : Hp), Ex H H3 → m = (if i % 4 = 3 then i * f * (i - 1 - f) - f * f + (f - 1) * (i - f) else i * f * (i - 1 - f)) → tRet (tOp (rI CDiv fun i j => V.int (i / j)) (tOp (rI0 fun i j => V.int (i - j)) (tOp (rI CDiv fun i j => V.int (i / j)) (tOp rMulW (tOp rMulW (tVar 0) (tOp (rI0 fun i j => V.int (i - j)) (tVar 0) (tC (V.int 1)))) (tOp (rI0 fun i j => V.int (i - j)) (tVar 0) (tC (V.int 2)))) (tC (V.int 3))) (tVar 2)) (tC (V.int 2)))
        { nx := fun _ H' => Q .non H', rt := Q } [some (.int i), some (.int f), some (.int m)] H3 := fun m H3 e3 hm => by
      refine s_ret (ev_fdiv (ev_op (ev_fdiv (ev_mulA (ev_mulA (ev_var rfl) (ev_op (ev_var rfl) ev_c rv_I0) (bi.ok (bd _ (by omega) (by omega)))) (ev_op (ev_var rfl) ev_c rv_I0) ((bi.mul (bd (i - 1) (by omega) (by omega))).ok (bd (i - 2) (by omega) (by omega)))) ev_c ⟨by decide, by decide⟩) (ev_var rfl) rv_I0) ev_c ⟨by decide, by decide⟩) fun H4 e4 => ?_
      have e : lawFew i = (i * (i - 1) * (i - 2) / 3 - m) / 2 := by
        unfold lawFew
        simp only
        rw [hf, hm]
      have := hq H4 (e3.trans e4)
      rw [e] at this
      exact this
    refine q_when (b := decide (i % 4 = 3)) (et_test (ev_eqI (ev_mod (ev_var rfl) ev_c (by decide)) ev_c)) (fun hb H3 e3 => ?_) fun hb H3 e3 => ?_
    · have hb' := of_decide_eq_true hb
      refine s_asg (v := .int (i * f * (i - 1 - f) - f * f + (f - 1) * (i - f))) (ev_op (ev_op (ev_var rfl) (ev_mulA (ev_var rfl) (ev_var rfl) (bf.ok bf)) rv_I0) (ev_mulA (ev_op (ev_var rfl) ev_c rv_I0) (ev_op (ev_var rfl) (ev_var rfl) rv_I0) ((bd (f - 1) (by omega) (by omega)).ok (bd (i - f) (by omega) (by omega)))) rv_I0) fun H4 e4 => ?_
      exact fin _ H4 (((e1.trans e2).trans e3).trans e4) (by rw [if_pos hb'])
    · have hb' := of_decide_eq_false hb
      exact fin _ H3 ((e1.trans e2).trans e3) (by rw [if_neg hb'])
theorem ok_law_is_web {P : Program} {w : World} {K : PySem.W.Frag} {mg : Str → Option Value} {base : Heap} (T : Txt K mg) (D : At K mg "_law_is_web" s_law_is_web ["_law_some", "_law_size"])  : Has P w K mg base CX0 1 "_law_is_web" ["_law_some", "_law_size"] (sp_law_is_web K) := by
  refine has_of D sc_law_is_web (fun vs H Q E h => ?_) (fun f cdv A outer s H vs Q E hr h => ?_)
  · obtain ⟨a, n, k, rfl, _⟩ := h
    rfl
  · obtain ⟨a, n, k, rfl, hw, hq⟩ := h
    have hn := hw.le
    refine ⟨_, (pss_cons (ps_if (PW.pt (pw_or (pt_not (pt_val (pe_callB (cr_isiK K) (by rfl) T.n_isinstance (by decide +kernel) (pa_cons (pv 0) (pa_cons (bty "list" T.n_list (by decide +kernel)) pa_nil))))) (pw_or (pt_cmpR op_ne (pe_callB (cr_lenK K) (by rfl) T.n_len (by decide +kernel) (pa_cons (pv 0) pa_nil)) (pv 1) (nomark _)) (pw_or1 (pt_not (pt_val (pe_callB (cr_allK K rfl) (by rfl) T.n_all (by decide +kernel) (pa_cons (pe_lc (own := [("_law_row", 3)]) rfl sc_law_is_web.nd (pi_listK K (pv 0)) (blkOk_by (by kernel_rfl)) (fun _ _ _ _ _ => (nm 3 sc_law_is_web.nd)) (fun _ _ _ _ _ => pts_nil) (fun _ _ _ _ _ => (pe_callB (cr_isiK K) (by rfl) T.n_isinstance (by decide +kernel) (pa_cons (pv 3) (pa_cons (bty "str" T.n_str (by decide +kernel)) pa_nil))))) pa_nil)))))))) (pss_one (ps_ret pe_bl)) pss_nil)
      (pss_cons (ps_for PassesOwn.never rfl (pi_enumK K T.n_enumerate (pa_cons (pv 0) pa_nil)) (pg_tupK K rfl (pgs_cons (nm 2 sc_law_is_web.nd) (pgs_cons (nm 3 sc_law_is_web.nd) pgs_nil))) (pss_cons (ps_if (PW.pt (pw_or (pt_cmpR op_ne (pe_callB cr_lenZ (by rfl) T.n_len (by decide +kernel) (pa_cons (pv 3) pa_nil)) (pv 1) (nomark _)) (pw_or (pt_cmpR op_ne (bmK K PySem.F.plainAttrs_str PySem.F.slot_str_strip PySem.F.type_str_strip mt_stripC (pv 3) (pa_cons pe_str pa_nil)) pe_str (nomark _)) (pw_or1 (pt_cmpR op_ne (pe_ix ix_str (pv 3) (pv 2) (fun _ _ => rfl)) pe_str (nomark _)))))) (pss_one (ps_ret pe_bl)) pss_nil)
      (pss_one (ps_if (pt_val (pe_callB (cr_anyK K rfl) (by rfl) T.n_any (by decide +kernel) (pa_cons (pe_lc (own := [("_law_other", 4)]) rfl sc_law_is_web.nd (pi_range1 rfl T.n_range (pa_cons (pv 2) pa_nil)) (blkOk_by (by kernel_rfl)) (fun _ _ _ _ _ => (nm 4 sc_law_is_web.nd)) (fun _ _ _ _ _ => pts_nil) (fun _ _ _ _ _ => (pe_cmpR op_ne (pe_ix ix_str (pv 3) (pv 4) (fun _ _ => rfl)) (pe_ix ix_str (pe_ix (ix_listK K) (pv 0) (pv 4) (fun _ _ => rfl)) (pv 2) (fun _ _ => rfl)) (nomark _)))) pa_nil))) (pss_one (ps_ret pe_bl)) pss_nil))))
      (pss_one (ps_ret pe_bl)))), ?_⟩
    refine q_when (b := false) (et_is (et_or (et_not (et_B (ev_isList (ev_var rfl) hw.seq (Ex.refl _)))) fun _ => et_or (et_test (ev_neI (ev_lenW hw.seq (Ex.refl _) (ev_var rfl)) (ev_var rfl))) fun _ =>
      et_not (et_B (ev_allR (el_map (fun i => V.bl true) (ew_web hw.seq (Ex.refl _) (ev_var rfl)) (by omega) (fun _ => rfl) fun i H1 e1 hi => ev_isStr (ev_var rfl))))) ?_) (bl_false rfl) fun _ H1 e1 => ?_
    · simp
    have w1 := hw.ex e1
    refine q_for2 (ew_enumW w1.seq (Ex.refl _) (ea_cons (ev_var rfl) ea_nil)) (fun i σ' H' => Ex H1 H' ∧ ∃ u v, σ' = [some (.ref a), some (.int n), u, v, none]) (fun H2 e2 => ⟨e2, _, _, rfl⟩) (fun i σ' H' _ p => p.1) (fun i σ' H' T hi p hT => ?_) fun σ' H' p => ?_
    · obtain ⟨e2, u, v, rfl⟩ := p
      have e3 := e2.trans (Ex.new (o := .tup [V.int (i : Nat), V.str (rowS n (k i))]) hT)
      refine q_when (b := false) (et_is (et_or (et_test (ev_neI (ev_lenRow (ev_var rfl) hn) (ev_var rfl))) fun _ => et_or (et_test (ev_op (ev_stripRow (ev_var rfl) ev_c hn) ev_c (rv_ne rfl))) fun _ =>
        et_test (ev_neD (ev_op (ev_var rfl) (ev_var rfl) (rv_row hi hn)) ev_c)) ?_) (bl_false rfl) fun _ H3 e4 => ?_
      · simp [hw.w.irr i hi]
      refine s_when (b := false) (et_is (et_B (ev_anyR (el_map (fun j => V.bl (k i j != k j i)) (ew_rng1 (ea_cons (ev_var rfl) ea_nil) (by omega)) (by omega) (fun _ => rfl) fun j H4 e5 hj =>
        ev_neSg (ev_op (ev_var rfl) (ev_var rfl) (rv_row (by omega) hn)) (ev_cell w1.seq ((e3.trans e4).trans e5) hn (ev_var rfl) (ev_var rfl) (ev_var rfl) (by omega) hi)))) ?_) (bl_false rfl) fun _ H4 e5 => ⟨(e3.trans e4).trans e5, _, _, rfl⟩
      rw [List.any_eq_false]
      intro j hj
      rw [hw.w.sym i j hi (by have := List.mem_range.mp hj; omega)]
      simp
    obtain ⟨e2, u, v, rfl⟩ := p
    exact s_ret ev_c fun H3 e3 => hq H3 ((e1.trans e2).trans e3)
theorem ok_law_small {P : Program} {w : World} {K : PySem.W.Frag} {mg : Str → Option Value} {base : Heap} (T : Txt K mg) (D : At K mg "_law_small" s_law_small ["_law_size", "_law_number_here"])  : Has P w K mg base CX0 1 "_law_small" ["_law_size", "_law_number_here"] (sp_law_small K) := by
  refine has_of D sc_law_small (fun vs H Q E h => ?_) (fun f cdv A outer s H vs Q E hr h => ?_)
  · obtain ⟨n, m, rfl, _⟩ := h
    rfl
  · obtain ⟨n, m, rfl, hn, hq⟩ := h
    refine ⟨_, (pss_cons (ps_setLc (i := 2) (own := [("_law_one", 3)]) rfl sc_law_small.nd rfl rfl (sw_true rfl rfl rfl (by decide +kernel)) (pi_range1 rfl T.n_range (pa_cons (pv 0) pa_nil)) (blkOk_by (by kernel_rfl)) (fun _ _ _ _ _ => (nm 3 sc_law_small.nd)) (fun _ _ _ _ _ => pts_nil) (fun _ _ _ _ _ => (pe_op op_rep (pe_lst (pa_cons pe_str pa_nil)) (pv 0))))
      (pss_cons (ps_for PassesOwn.never rfl (pi_range1 rfl T.n_range (pa_cons (pv 0) pa_nil)) (nm 3 sc_law_small.nd) (pss_one (ps_for PassesOwn.never rfl (pi_range1 rfl T.n_range (pa_cons (pv 3) pa_nil)) (nm 4 sc_law_small.nd) (pss_cut (ps_if (pt_cmpR op_eq (pe_op op_mod (pv 1) pe_int) pe_int (nomark _)) (pss_cons (ps_asg pe_str (pg_sub (pe_ix (ix_listK K) (pv 2) (pv 3) (fun _ _ => rfl)) (pv 4) set_list))
      (pss_one (ps_asg pe_str (pg_sub (pe_ix (ix_listK K) (pv 2) (pv 4) (fun _ _ => rfl)) (pv 3) set_list)))) pss_nil)
      (pss_one (st_ 1 sc_law_small.nd (pe_op op_fdiv (pv 1) pe_int)))))))
      (pss_one (ps_ret (pe_lc (own := [("_law_row", 5)]) rfl sc_law_small.nd (pi_listK K (pv 2)) (blkOk_by (by kernel_rfl)) (fun _ _ _ _ _ => (nm 5 sc_law_small.nd)) (fun _ _ _ _ _ => pts_nil) (fun _ _ _ _ _ => (bmK K PySem.F.plainAttrs_str PySem.F.slot_str_join PySem.F.type_str_join (mt_joinK K) pe_str (pa_cons (pv 5) pa_nil)))))))), ?_⟩
    refine q_asgR (er_lc (fun _ => sgRow n fun _ => false) (ew_rng1 (ea_cons (ev_var rfl) ea_nil) (by omega)) (by omega) (fun _ => rfl) fun i H1 e1 hi => el_repR (el_lst (ea_cons ev_c ea_nil) (by decide)) (fun H2 e2 => ev_var rfl) (by omega)) fun l ps H1 e1 hps r => ?_
    refine q_for (Hw := H) (ew_rng1 (ea_cons (ev_var rfl) ea_nil) (by omega)) (fun i σ' H' => Ex H H' ∧ RowsP H H' l ps (fun a => sgRow n (fun b => smDone i 0 a b && smallK m a b)) ∧ ∃ s3 s4, σ' = [some (.int n), some (.int (m / 2 ^ smP i 0)), some (.ref l), s3, s4, none])
      (fun H' e => ⟨e1.trans e, (r.ex e).congr fun a _ => sgRow_congr fun b _ => by simp [smDone], _, _, by
        have : m / 2 ^ smP 0 0 = m := by show m / 1 = m; simp
        rw [this]; rfl⟩) (fun i σ' H' _ p => p.1) (fun i σ' H' hi p => ?_) fun σ' H' p => ?_
    · obtain ⟨ex, r, s3, s4, rfl⟩ := p
      refine s_for (Hw := H) (ew_rng1 (ea_cons (ev_var rfl) ea_nil) (by omega)) (fun j σ' H' => Ex H H' ∧ RowsP H H' l ps (fun a => sgRow n (fun b => smDone i j a b && smallK m a b)) ∧ ∃ s4, σ' = [some (.int n), some (.int (m / 2 ^ smP i j)), some (.ref l), some (.int (i : Nat)), s4, none])
        (fun H' e => ⟨ex.trans e, r.ex e, _, rfl⟩) (fun i σ' H' _ p => p.1) (fun j σ' H' hj q => ?_) fun σ' H' q => ?_
      · obtain ⟨ex, r, s4, rfl⟩ := q
        have kij : smallK m i j = decide (m / 2 ^ smP i j % 2 = 1) := by
          unfold smallK
          rw [decide_eq_true (show i ≠ j by omega), Bool.true_and, Nat.max_eq_left (by omega), Nat.min_eq_right (by omega)]
        have kji : smallK m j i = decide (m / 2 ^ smP i j % 2 = 1) := by
          unfold smallK
          rw [decide_eq_true (show j ≠ i by omega), Bool.true_and, Nat.max_eq_right (by omega), Nat.min_eq_left (by omega)]
        refine q_cut (M := fun σ' H' => Ex H H' ∧ RowsP H H' l ps (fun a => sgRow n (fun b => smDone i (j + 1) a b && smallK m a b)) ∧ σ' = [some (.int n), some (.int (m / 2 ^ smP i j)), some (.ref l), some (.int (i : Nat)), some (.int (j : Nat)), none]) ?_ fun σ' H5 c => ?_
        rotate_left
        · obtain ⟨e5, r5, rfl⟩ := c
          refine s_asg (v := .int (m / 2 ^ smP i j / 2)) (ev_fdiv (ev_var rfl) ev_c ⟨by decide, by decide⟩) fun H6 e6 => ⟨e5.trans e6, r5.ex e6, some (.int (j : Nat)), ?_⟩
          rw [sm_half, ← smP_succ]; rfl
        refine s_when (b := decide (m / 2 ^ smP i j % 2 = 1)) (et_test (ev_eqI (ev_mod (ev_var rfl) ev_c (by decide)) ev_c)) (fun hb H2 e2 => ?_) fun hb H2 e2 => ?_
        · refine q_setRow (r.ex e2) ev_c (ev_var rfl) (ev_var rfl) (ev_var rfl) (by omega) (by rw [sgRow_len]; omega) fun H3 e3 p hp fp r3 => ?_
          refine s_setRow r3 ev_c (ev_var rfl) (ev_var rfl) (ev_var rfl) (by omega) (by rw [if_neg (by omega), sgRow_len]; omega) fun H4 e4 p' hp' fp' r4 => ?_
          refine ⟨Ex.mut ((Ex.mut ((ex.trans e2).trans e3) fp).trans e4) fp', r4.congr fun a ha => ?_, rfl⟩
          rw [← sgS_x]
          simp only [sgRow_set]
          have nij : ¬ j = i := by omega
          have nji : ¬ i = j := by omega
          by_cases c1 : a = j
          · subst c1
            simp only [if_true, if_neg nij]
            rw [sgRow_set]
            refine sgRow_congr fun b _ => ?_
            by_cases c2 : b = i
            · subst c2
              rw [if_pos rfl, kji, hb]
              have : smDone b (a + 1) a b = true := by unfold smDone; simp; omega
              rw [this]; rfl
            · rw [if_neg c2]
              have : smDone i (a + 1) a b = smDone i a a b := by
                unfold smDone
                congr 1
                by_cases c3 : max a b = i
                · have : b = i := by omega
                  exact absurd this c2
                · rw [decide_eq_false c3]; rfl
              rw [this]
          · by_cases c2 : a = i
            · subst c2
              simp only [if_true, if_neg c1]
              refine sgRow_congr fun b _ => ?_
              by_cases c3 : b = j
              · subst c3
                rw [if_pos rfl, kij, hb]
                have : smDone a (b + 1) a b = true := by unfold smDone; simp; omega
                rw [this]; rfl
              · rw [if_neg c3]
                have : smDone a (j + 1) a b = smDone a j a b := by
                  unfold smDone
                  congr 1
                  by_cases c4 : max a b = a
                  · rw [decide_eq_true c4]
                    congr 1
                    refine decide_eq_decide.mpr ?_
                    omega
                  · rw [decide_eq_false c4]; rfl
                rw [this]
            · simp only [if_neg c1, if_neg c2]
              refine sgRow_congr fun b _ => ?_
              have : smDone i (j + 1) a b = smDone i j a b := by
                unfold smDone
                congr 1
                by_cases c4 : max a b = i
                · rw [decide_eq_true c4]
                  congr 1
                  refine decide_eq_decide.mpr ?_
                  omega
                · rw [decide_eq_false c4]; rfl
              rw [this]
        · refine ⟨ex.trans e2, (r.ex e2).congr fun a ha => sgRow_congr fun b _ => ?_, rfl⟩
          by_cases c : max a b = i ∧ min a b = j
          · have k0 : smallK m a b = false := by
              by_cases c5 : a = i
              · have : b = j := by omega
                rw [c5, this, kij, hb]
              · have e1 : a = j := by omega
                have e2 : b = i := by omega
                rw [e1, e2, kji, hb]
            rw [k0]; simp
          · have : smDone i (j + 1) a b = smDone i j a b := by
              unfold smDone
              congr 1
              by_cases c4 : max a b = i
              · rw [decide_eq_true c4]
                congr 1
                refine decide_eq_decide.mpr ?_
                omega
              · rw [decide_eq_false c4]; rfl
            rw [this]
      · obtain ⟨ex, r, s4, rfl⟩ := q
        refine ⟨ex, r.congr fun a _ => sgRow_congr fun b _ => ?_, _, _, by rw [smP_row]⟩
        by_cases c : a = b
        · subst c; simp [smallK]
        · congr 1
          unfold smDone
          by_cases c2 : max a b < i
          · rw [decide_eq_true c2, decide_eq_true (show max a b < i + 1 by omega)]; rfl
          · rw [decide_eq_false c2]
            by_cases c3 : max a b = i
            · rw [decide_eq_true c3, decide_eq_true (show min a b < i by omega), decide_eq_true (show max a b < i + 1 by omega)]; rfl
            · rw [decide_eq_false c3, decide_eq_false (show ¬ max a b < i + 1 by omega), decide_eq_false (show ¬ min a b < 0 by omega)]; simp
    obtain ⟨ex, r, s3, s4, rfl⟩ := p
    have rr := r.congr (g' := fun a => sgRow n (smallK m a)) fun a ha => sgRow_congr fun b hb => by
      have : smDone n 0 a b = true := by unfold smDone; simp; omega
      rw [this]; rfl
    exact s_retL (el_joinRows rr hps (by omega) (ev_var rfl) (fun _ => rfl) fun _ => rfl) fun p H9 hp e9 hp9 => hq p H9 (fresh_back ex hp) (ex.trans e9) hp9
theorem fn_law {P : Program} {w : World} {K : PySem.W.Frag} {mg : Str → Option Value} {base : Heap} {fl : Addr} {fd : FuncData} (T : Txt K mg) (F : Fun K "law" "law" s_law fl fd) (h_law_number : Has P w K mg base CX0 1 "_law_number" ["_law_cell", "_law_at", "_law_whole"] (sp_law_number K)) (h_fewest : Has P w K mg base CX0 3 "fewest" ["size"] (sp_fewest K)) (h_law_fewest : Has P w K mg base CX0 1 "_law_fewest" ["_law_size"] (sp_law_fewest K)) (h_web_of : Has P w K mg base CX0 3 "web_of" ["size"] (sp_web_of K)) (h_law_is_web : Has P w K mg base CX0 1 "_law_is_web" ["_law_some", "_law_size"] (sp_law_is_web K)) (h_alike : Has P w K mg base CX0 2 "alike" ["web"] (sp_alike K)) (h_law_small : Has P w K mg base CX0 1 "_law_small" ["_law_size", "_law_number_here"] (sp_law_small K)) : FnOk P w K mg base CX0 4 fl fd ["_law_script"] (sp_law K) := by
  refine F.ok sc_law (fun vs H Q E h => ?_) (fun cdv A outer s H vs Q E hr h => ?_)
  · obtain ⟨a, ns, rfl, _⟩ := h
    rfl
  · obtain ⟨a, ns, rfl, hS, hlen, hbits, hq⟩ := h
    refine ⟨_, (pss_cons (st_ 1 sc_law.nd (pe_ifExp (pt_cmpR (op_neDK K hr.units) (pv 0) (pe_lst pa_nil) (nomark _)) (pe_slice (sl_listK K) (pv 0) po_none (po_some pe_int)) (pe_lst (pa_cons pe_int pa_nil))))
      (pss_cons (st_ 2 sc_law.nd (pe_callB (cr_sumK K rfl) (by rfl) T.n_sum (by decide +kernel) (pa_cons (pv 1) pa_nil)))
      (pss_cons (ps_for PassesOwn.never rfl (pi_enumK K T.n_enumerate (pa_cons (pe_slice (sl_listK K) (pv 1) po_none (po_some pe_int)) pa_nil)) (pg_tupK K rfl (pgs_cons (nm 3 sc_law.nd) (pgs_cons (nm 4 sc_law.nd) pgs_nil))) (pss_cons (st_ 5 sc_law.nd (pe_op op_mod (hcall h_law_number (hr.mono (by decide)) (pa_cons (pv 4) (pa_cons (pv 3) (pa_cons (pv 2) pa_nil)))) (pe_ix (ix_tupK K) (pe_tup (pa_cons (pe_op op_pow pe_int pe_int) (pa_cons pe_int (pa_cons pe_int pa_nil)))) (pe_op op_mod (pe_op op_fdiv (pv 4) pe_int) pe_int) (fun _ _ => rfl))))
      (pss_cons (st_ 6 sc_law.nd (hcall h_fewest (hr.mono (by decide)) (pa_cons (pv 5) pa_nil)))
      (pss_cons (st_ 7 sc_law.nd (pe_ifExp (pt_cmpR op_gt (pv 5) pe_int (nomark _)) (hcall h_law_fewest (hr.mono (by decide)) (pa_cons (pv 5) pa_nil)) pe_int))
      (pss_one (ps_if (PW.pt (pw_or (pt_val (pe_callB (cr_isiK K) (by rfl) T.n_isinstance (by decide +kernel) (pa_cons (pv 6) (pa_cons (bty "bool" T.n_bool (by decide +kernel)) pa_nil)))) (pw_or (pt_not (pt_val (pe_callB (cr_isiK K) (by rfl) T.n_isinstance (by decide +kernel) (pa_cons (pv 6) (pa_cons (bty "int" T.n_int (by decide +kernel)) pa_nil))))) (pw_or1 (pt_cmpR op_ne (pv 6) (pv 7) (nomark _)))))) (pss_one (ps_ret pe_bl)) pss_nil))))))
      (pss_cons (st_ 5 sc_law.nd (pe_op op_mod (pv 2) pe_int))
      (pss_cut (ps_if (pt_cmpR op_eq (pe_op op_mod (pe_op op_fdiv (pv 2) pe_int) pe_int) pe_int (nomark _)) (pss_one (st_ 5 sc_law.nd (pe_op op_mod (pv 2) pe_int))) pss_nil)
      (pss_cons (ps_for PassesOwn.never rfl (pi_listK K (pe_lst (pa_cons (pv 5) (pa_cons (pe_op op_mod (pe_op op_fdiv (pv 2) pe_int) pe_int) pa_nil)))) (nm 8 sc_law.nd) (pss_cons (st_ 9 sc_law.nd (hcall h_web_of (hr.mono (by decide)) (pa_cons (pv 8) pa_nil)))
      (pss_one (ps_if (PW.pt (pw_or (pt_not (pt_val (hcall h_law_is_web (hr.mono (by decide)) (pa_cons (pv 9) (pa_cons (pv 8) pa_nil))))) (pw_or1 (pt_cmpR op_ne (hcall h_alike (hr.mono (by decide)) (pa_cons (pv 9) pa_nil)) (hcall h_fewest (hr.mono (by decide)) (pa_cons (pv 8) pa_nil)) (nomark _))))) (pss_one (ps_ret pe_bl)) pss_nil))))
      (pss_cons (st_ 10 sc_law.nd (pe_op op_add pe_int (pe_op op_mod (pv 2) pe_int)))
      (pss_cons (st_ 11 sc_law.nd (pe_lst pa_nil))
      (pss_cons (ps_for PassesOwn.never rfl (pi_range1 rfl T.n_range (pa_cons (pe_ix (ix_tupK K) (pe_tup (pa_cons pe_int (pa_cons pe_int (pa_cons pe_int (pa_cons pe_int (pa_cons pe_int (pa_cons pe_int (pa_cons pe_int pa_nil)))))))) (pv 10) (fun _ _ => rfl)) pa_nil)) (nm 12 sc_law.nd) (pss_cons (st_ 13 sc_law.nd (pe_ifExp (pt_cmpR op_gt (pv 10) pe_int (nomark _)) (pe_op op_mod (pe_op op_add (pe_op op_mulA (pv 12) pe_int) (pv 2)) (pe_op op_shl pe_int (pe_op op_fdiv (pe_op op_mulA (pv 10) (pe_op op_sub (pv 10) pe_int)) pe_int))) (pv 12)))
      (pss_one (ps_expr (bmK K PySem.F.plainAttrs_list PySem.F.slot_list_append PySem.F.type_list_append mt_append (pv 11) (pa_cons (hcall h_alike (hr.mono (by decide)) (pa_cons (hcall h_law_small (hr.mono (by decide)) (pa_cons (pv 10) (pa_cons (pv 13) pa_nil))) pa_nil)) pa_nil))))))
      (pss_cons (ps_if (PW.pt (pw_or (PW.pt (pw_and (pt_cmpR op_lt (pv 10) pe_int (nomark _)) (pw_and1 (pt_cmpR op_ne (pe_callB (cr_minK1 K rfl) (by rfl) T.n_min (by decide +kernel) (pa_cons (pv 11) pa_nil)) (hcall h_fewest (hr.mono (by decide)) (pa_cons (pv 10) pa_nil)) (nomark _))))) (pw_or1 (pt_cmpR op_lt (pe_callB (cr_minK1 K rfl) (by rfl) T.n_min (by decide +kernel) (pa_cons (pv 11) pa_nil)) (hcall h_fewest (hr.mono (by decide)) (pa_cons (pv 10) pa_nil)) (nomark _))))) (pss_one (ps_ret pe_bl)) pss_nil)
      (pss_one (ps_ret (pe_and (pe_cmpR (op_eqDK K hr.units) (pe_lc (own := [("_law_size", 5)]) rfl sc_law.nd (pi_range1 rfl T.n_range (pa_cons pe_int pa_nil)) (blkOk_by (by kernel_rfl)) (fun _ _ _ _ _ => (nm 5 sc_law.nd)) (fun _ _ _ _ _ => pts_nil) (fun _ _ _ _ _ => (hcall h_fewest (hr.mono (by decide)) (pa_cons (pv 5) pa_nil)))) (pe_lst (pa_cons pe_int (pa_cons pe_int (pa_cons pe_int (pa_cons pe_int (pa_cons pe_int (pa_cons pe_int (pa_cons pe_int (pa_cons pe_int (pa_cons pe_int pa_nil)))))))))) (nomark _)) (pe_one (pe_cmpR (op_eqDK K hr.units) (hcall h_web_of (hr.mono (by decide)) (pa_cons pe_int pa_nil)) (pe_lst pa_nil) (nomark _)))))))))))))))), ?_⟩
    -- the cells
    generalize hcs : (if ns = [] then [4] else ns.take 63 : List Int) = cs
    have cbits : ∀ z ∈ cs, Bt 1048576 z := by
      intro z hz
      rw [← hcs] at hz
      split at hz
      · have : z = 4 := by simpa using hz
        rw [this]; exact Bt.small _ (by decide) (by decide)
      · exact hbits z (List.mem_of_mem_take hz)
    refine q_asgL (xs := cs.map V.int) (el_if (b := !decide (ns = [])) (et_test (ev_neQI (ms := []) (EvQ.of_ev (ev_var rfl) hS (Ex.refl _)) (EvQ.of_el (el_lst ea_nil (by decide))))) (fun hb => ?_) fun hb => ?_) fun l H1 hl0 e1 hl => ?_
    · have hb' : ¬ ns = [] := by simpa using hb
      rw [← hcs, if_neg hb', List.map_take]
      exact el_is (el_slQ (EvQ.of_ev (ev_var rfl) hS (Ex.refl _)) eo_none (eo_some ev_c)) (cut_take _ 63)
    · have hb' : ns = [] := by simpa using hb
      rw [← hcs, if_pos hb']
      exact el_lst (ea_cons ev_c ea_nil) (by decide)
    refine q_asg (ev_sumL (ev_var rfl) (SqL.of hl)) fun H2 e2 => ?_
    generalize cs.sum = whole
    have hl2 := e2 _ _ hl
    refine q_forN2 (ewn_enum (xs := (cs.take 6).map V.int) (EvQ.of_el (el_is (el_slQ (EvQ.of_ev (ev_var rfl) (SqL.of hl2) (Ex.refl _)) eo_none (eo_some ev_c)) ((cut_take _ 6).trans List.map_take.symm))))
      (fun Hb i σ' H' => Ex Hb H' ∧ ∃ s3 s4 s5 s6 s7, σ' = [some (.ref a), some (.ref l), some (.int whole), s3, s4, s5, s6, s7, none, none, none, none, none, none]) (fun H' e => ⟨Ex.refl _, _, _, _, _, _, rfl⟩) (fun Hb i σ' H' _ p => p.1) (fun Hb i σ' H' T eb hi p hT => ?_) fun Hb σ' H' eb p => ?_
    · obtain ⟨ex, s3, s4, s5, s6, s7, rfl⟩ := p
      rw [List.length_map] at hi
      have hi6 : i < 6 := by rw [List.length_take] at hi; omega
      obtain ⟨c, hc⟩ : ∃ c, (cs.take 6)[i]? = some c := ⟨(cs.take 6)[i], List.getElem?_eq_getElem hi⟩
      have hcm : Bt 1048576 c := cbits c (List.mem_of_mem_take (List.mem_of_getElem? hc))
      have ec : ((cs.take 6).map V.int).getD i V.non = V.int c := by rw [List.getD_eq_getElem?_getD, List.getElem?_map, hc]; rfl
      rw [ec]
      have et := Ex.new (o := .tup [V.int (i : Nat), V.int c]) hT
      obtain ⟨mm, hm1, hm2, hm3⟩ : ∃ mm : Int, atI [V.int ((10 : Int) ^ (30 : Int).toNat), V.int 50, V.int 1000] (c / 7 % 3) = some (V.int mm) ∧ 0 < mm ∧ mm ≤ 10 ^ 30 := by
        have h3 : c / 7 % 3 = 0 ∨ c / 7 % 3 = 1 ∨ c / 7 % 3 = 2 := by omega
        rcases h3 with h3 | h3 | h3 <;> rw [h3]
        · exact ⟨10 ^ 30, rfl, by decide, by decide⟩
        · exact ⟨50, rfl, by decide, by decide⟩
        · exact ⟨1000, rfl, by decide, by decide⟩
      refine q_asg (ev_mod (ev_hc (ea_cons (ev_var rfl) (ea_cons (ev_var rfl) (ea_cons (ev_var rfl) ea_nil))) (spv_law_number (hcm.mono (by decide)) (by omega) (by omega))) (ev_ixU (eu_tup (ea_cons (ev_op ev_c ev_c (rv_I ⟨by decide, by decide, by decide⟩)) (ea_cons ev_c (ea_cons ev_c ea_nil))) (by decide)) (ev_mod (ev_fdiv (ev_var rfl) ev_c ⟨by decide, by decide⟩) ev_c (by decide)) hm1) hm2) fun H3 e3 => ?_
      generalize hs : lawNum c (i : Nat) whole % mm = s
      have s0 : 0 ≤ s := by rw [← hs]; exact Int.emod_nonneg _ (by omega)
      have s1 : s < 10 ^ 30 := by rw [← hs]; exact Int.lt_of_lt_of_le (Int.emod_lt_of_pos _ hm2) hm3
      have s2 : s < 2 ^ 200 := by omega
      refine q_asg (ev_hc (ea_cons (ev_var rfl) ea_nil) (spv_fewest s0 s2)) fun H4 e4 => ?_
      refine q_asg (v := .int (fewestZ s)) (ev_if (b := decide (0 < s)) (et_test (ev_op (ev_var rfl) ev_c rv_I0)) (fun hb => ev_is (ev_hc (ea_cons (ev_var rfl) ea_nil) (spv_law_fewest s0 s2)) ?_) (fun hb => ev_is ev_c ?_)) fun H5 e5 => ?_
      · obtain ⟨m, hm⟩ : ∃ m : Nat, s = m := ⟨s.toNat, by omega⟩
        rw [hm, lawFew_eq]
      · have : s = 0 := by have := of_decide_eq_false hb; omega
        rw [this]; rfl
      refine s_when (b := false) (et_is (et_or (et_B (ev_isBoolI (ev_var rfl))) fun _ => et_or (et_not (et_B (ev_isInt (ev_var rfl)))) fun _ => et_test (ev_neI (ev_var rfl) (ev_var rfl))) (by simp)) (bl_false rfl) fun _ H6 e6 => ?_
      exact ⟨(((((ex.trans et).trans e3).trans e4).trans e5).trans e6), _, _, _, _, _, rfl⟩
    obtain ⟨ex, s3, s4, s5, s6, s7, rfl⟩ := p
    have e0 : Ex H H' := ((e1.trans e2).trans eb).trans ex
    clear ex eb hl2 e1 e2
    refine q_asg (ev_mod (ev_var rfl) ev_c (by decide)) fun H3 e3 => ?_
    refine q_cut (M := fun σ' H' => Ex H3 H' ∧ ∃ z : Nat, z ≤ 200 ∧ σ' = [some (.ref a), some (.ref l), some (.int whole), s3, s4, some (.int (z : Nat)), s6, s7, none, none, none, none, none, none]) ?_ fun σ' H4 c => ?_
    · refine s_when (b := decide (whole / 61 % 32 = 7)) (et_test (ev_eqI (ev_mod (ev_fdiv (ev_var rfl) ev_c ⟨by decide, by decide⟩) ev_c (by decide)) ev_c)) (fun hb H4 e4 => ?_) fun hb H4 e4 => ?_
      · refine s_asg (ev_mod (ev_var rfl) ev_c (by decide)) fun H5 e5 => ⟨e4.trans e5, (whole % 201).toNat, by omega, ?_⟩
        rw [show (((whole % 201).toNat : Nat) : Int) = whole % 201 by omega]; rfl
      · refine ⟨e4, (whole % 61).toNat, by omega, ?_⟩
        rw [show (((whole % 61).toNat : Nat) : Int) = whole % 61 by omega]; rfl
    obtain ⟨e4, z, hz, rfl⟩ := c
    have e04 := (e0.trans e3).trans e4
    clear e3 e4 e0
    refine q_forN (ewn_list (EvQ.of_el (el_lst (ea_cons (ev_var rfl) (ea_cons (ev_mod (ev_fdiv (ev_var rfl) ev_c ⟨by decide, by decide⟩) ev_c (by decide)) ea_nil)) (by simp))))
      (fun Hb i σ' H' => Ex Hb H' ∧ ∃ s8 s9, σ' = [some (.ref a), some (.ref l), some (.int whole), s3, s4, some (.int (z : Nat)), s6, s7, s8, s9, none, none, none, none]) (fun H' e => ⟨Ex.refl _, _, _, rfl⟩) (fun Hb i σ' H' _ p => p.1) (fun Hb i σ' H' eb hi p => ?_) fun Hb σ' H' eb p => ?_
    · obtain ⟨ex, s8, s9, rfl⟩ := p
      obtain ⟨m, hm, em⟩ : ∃ m : Nat, m ≤ 200 ∧ [V.int (z : Nat), V.int (whole / 3 % 16)].getD i V.non = V.int (m : Nat) := by
        have : i = 0 ∨ i = 1 := by simp at hi; omega
        rcases this with e | e <;> subst e
        · exact ⟨z, hz, rfl⟩
        · exact ⟨(whole / 3 % 16).toNat, by omega, by rw [show (((whole / 3 % 16).toNat : Nat) : Int) = whole / 3 % 16 by omega]; rfl⟩
      rw [em]
      refine q_asgL (el_hc (ea_cons (ev_var rfl) ea_nil) (spl_web_of hm)) fun p H5 hp0 e5 hp => ?_
      have w5 : WebAt K H5 p m (wofK m) := WebAt.of hp (wofK_w m) hm
      refine s_when (b := false) (et_is (et_or (et_not (et_B (ev_hc (ea_cons (ev_var rfl) (ea_cons (ev_var rfl) ea_nil)) (spv_law_is_web w5)))) fun _ => et_test (ev_neI (ev_hc (ea_cons (ev_var rfl) ea_nil) (spv_alike w5)) (ev_hc (ea_cons (ev_var rfl) ea_nil) (spv_fewest (by omega) (by omega))))) ?_) (bl_false rfl) fun _ H6 e6 => ⟨(ex.trans e5).trans e6, _, _, rfl⟩
      rw [alike_eq (wofK_w m), wofK_alike]
      simp
    obtain ⟨ex, s8, s9, rfl⟩ := p
    have e0 : Ex H H' := (e04.trans eb).trans ex
    clear ex eb e04
    obtain ⟨fw, hf, hf3⟩ : ∃ fw : Nat, 3 + whole % 4 = (fw : Nat) ∧ (fw = 3 ∨ fw = 4 ∨ fw = 5 ∨ fw = 6) := ⟨(3 + whole % 4).toNat, by omega, by omega⟩
    refine q_asg (v := .int (fw : Nat)) (ev_is (ev_op ev_c (ev_mod (ev_var rfl) ev_c (by decide)) rv_I0) (by show V.int (3 + whole % 4) = _; rw [hf])) fun H3 e3 => ?_
    refine q_asgL (el_lst ea_nil (by decide)) fun l2 H4 hl20 e4 hl2 => ?_
    have e04 := e0.trans e3
    generalize hm : (if fw = 3 then 8 else 64 : Nat) = m
    have mle : m ≤ 64 := by rw [← hm]; split <;> omega
    generalize hbf : (fun x : Nat => if (4 : Int) < fw then ((x : Int) * 523 + whole) % (1 * 2 ^ ((fw : Int) * (fw - 1) / 2).toNat) else (x : Int)) = bf
    refine q_for (Hw := H3) (ew_rng1 (n := m) (ea_cons (ev_ixU (eu_tup (ea_cons ev_c (ea_cons ev_c (ea_cons ev_c (ea_cons ev_c (ea_cons ev_c (ea_cons ev_c (ea_cons ev_c ea_nil))))))) (by decide)) (ev_var rfl) ?_) ea_nil) (by omega))
      (fun i σ' H' => Ex H3 H' ∧ H' l2 = some (.lst ((List.range i).map fun x => V.int (alikeZ fw (smallK (bf x))))) ∧ ∃ s12 s13, σ' = [some (.ref a), some (.ref l), some (.int whole), s3, s4, some (.int (z : Nat)), s6, s7, s8, s9, some (.int (fw : Nat)), some (.ref l2), s12, s13])
      (fun H' e => ⟨e4.trans e, e _ _ hl2, _, _, rfl⟩) (fun i σ' H' _ p => p.1) (fun i σ' H' hi p => ?_) fun σ' H' p => ?_
    · rcases hf3 with e | e | e | e <;> subst e <;> subst hm <;> rfl
    · obtain ⟨ex, hl2, s12, s13, rfl⟩ := p
      have tw : ((fw : Int) * (fw - 1) / 2).toNat ≤ 1000000 ∧ 0 ≤ (fw : Int) * (fw - 1) / 2 := by
        rcases hf3 with e | e | e | e <;> subst e <;> decide
      refine q_asg (v := .int (bf i)) (ev_if (b := decide ((4 : Int) < fw)) (et_test (ev_op (ev_var rfl) ev_c rv_I0)) (fun hb => ?_) (fun hb => ?_)) fun H5 e5 => ?_
      · rw [← hbf]
        simp only [if_pos (of_decide_eq_true hb)]
        exact ev_mod (ev_op (ev_mulA (ev_var rfl) ev_c (mul_small (.inr (by decide)))) (ev_var rfl) rv_I0) (ev_op ev_c (ev_fdiv (ev_mulA (ev_var rfl) (ev_op (ev_var rfl) ev_c rv_I0) (mul_small (.inl (by omega)))) ev_c ⟨by decide, by decide⟩) (rv_I ⟨tw.2, by omega, by decide⟩)) (by
          have := two_pow_nn ((fw : Int) * (fw - 1) / 2).toNat
          have h2 : (0 : Int) < 2 ^ ((fw : Int) * (fw - 1) / 2).toNat := Int.pow_pos (by decide)
          omega)
      · rw [← hbf]
        simp only [if_neg (of_decide_eq_false hb)]
        exact ev_var rfl
      refine s_app (e5 _ _ hl2) (ev_var rfl) (ev_hcL (el_hc (ea_cons (ev_var rfl) (ea_cons (ev_var rfl) ea_nil)) (spl_law_small (by omega))) fun p H6 hp e6 => spv_alike (WebAt.of hp (smallK_w fw (bf i)) (by omega))) (by simp; omega) fun H6 e6 => ?_
      refine ⟨Ex.mut ((ex.trans e5).trans e6) hl20, ?_, _, _, rfl⟩
      rw [upd_same, List.range_succ, List.map_append]; rfl
    obtain ⟨ex, hl2, s12, s13, rfl⟩ := p
    have fin : (List.range m).map (fun x => V.int (alikeZ fw (smallK (bf x)))) = ((List.range m).map fun x => alikeZ fw (smallK (bf x))).map V.int := by rw [List.map_map]; rfl
    rw [fin] at hl2
    have mpos : 0 < m := by rw [← hm]; split <;> omega
    obtain ⟨M, hM1, hM2⟩ := least (ns := (List.range m).map fun x => alikeZ fw (smallK (bf x))) (by
      intro h
      have := congrArg List.length h
      simp at this; omega)
    have hMf : fewestZ fw ≤ M := by
      obtain ⟨x, _, hx⟩ := List.mem_map.mp hM1
      rw [← hx, alike_eq (smallK_w fw (bf x))]
      exact fewest_le (smallK_w fw (bf x))
    have hM0 : fw < 5 → M = fewestZ fw := by
      intro h5
      obtain ⟨x, hx, hz⟩ := small_zero fw (by omega)
      rw [hm] at hx
      have hbx : bf x = (x : Nat) := by
        rw [← hbf]
        show (if (4 : Int) < fw then _ else (x : Int)) = x
        rw [if_neg (by omega)]
      have h1 := hM2 (alikeZ fw (smallK (bf x))) (List.mem_map.mpr ⟨x, List.mem_range.mpr hx, rfl⟩)
      rw [alike_eq (smallK_w fw (bf x)), hbx, hz] at h1
      have h0 : fewestZ fw = 0 := by
        have : fw = 3 ∨ fw = 4 := by omega
        rcases this with e | e <;> subst e <;> decide +kernel
      omega
    refine q_when (b := false) (et_is (et_or (et_and (et_test (ev_op (ev_var rfl) ev_c rv_I0)) fun hb => et_test (ev_neI (ev_minQ (EvQ.of_ev (ev_var rfl) (SqL.of hl2) (Ex.refl _)) hM1 hM2) (ev_hc (ea_cons (ev_var rfl) ea_nil) (spv_fewest (by omega) (by omega))))) fun _ => et_test (ev_op (ev_minQ (EvQ.of_ev (ev_var rfl) (SqL.of hl2) (Ex.refl _)) hM1 hM2) (ev_hc (ea_cons (ev_var rfl) ea_nil) (spv_fewest (by omega) (by omega))) rv_I0)) ?_) (bl_false rfl) fun _ H5 e5 => ?_
    · by_cases h5 : fw < 5
      · rw [hM0 h5]; simp
      · rw [decide_eq_false (show ¬ (fw : Int) < 5 by omega), decide_eq_false (show ¬ M < fewestZ fw by omega)]; rfl
    refine s_ret (ev_andV (ev_eqQI (ns := [fewestZ 0, fewestZ 1, fewestZ 2, fewestZ 3, fewestZ 4, fewestZ 5, fewestZ 6, fewestZ 7, fewestZ 8]) (ms := [0, 0, 0, 0, 0, 0, 2, 4, 8]) (EvQ.of_el (el_is (el_map (fun i => V.int (fewestZ (i : Nat))) (ew_rng1 (n := 9) (ea_cons ev_c ea_nil) (by decide)) (by decide) (fun _ => rfl) fun i H6 e6 hi => ev_hc (ea_cons (ev_var rfl) ea_nil) (spv_fewest (by omega) (by omega))) rfl)) (EvQ.of_el (el_lst (ea_cons ev_c (ea_cons ev_c (ea_cons ev_c (ea_cons ev_c (ea_cons ev_c (ea_cons ev_c (ea_cons ev_c (ea_cons ev_c (ea_cons ev_c ea_nil))))))))) (by decide))))
      fun _ => ev_eqQI (ns := []) (ms := []) (EvQ.of_el (el_hc (ea_cons ev_c ea_nil) (spl_web_of (n := 0) (by decide)))) (EvQ.of_el (el_lst ea_nil (by decide)))) fun H6 e6 => ?_
    have := hq H6 (((e04.trans ex).trans e5).trans e6)
    rw [few_rows]
    exact this
theorem all_mk {P : Program} {w : World} {K : PySem.W.Frag} {h : Heap} {mg : Str → Option Value} {fa : Addr} (X : K.In h) (G : h.Ns mainGlobals mg) (hfa : mg "law" = some (.ref fa))
    {f0 : Addr} {od0 an0 : Option Addr} {sl0 : Array (Option Value)} {oc0 kV0 dc0 pm0 cd0 ct0 : Value}
    (a0 : PySem.W.nsIn K mainGlobals "is_number" = some (some (.ref f0))) (l0 : K.lookup f0 = some ⟨oc0, od0, .func (PySem.W.fnOf "is_number" "is_number" (defArgs s_is_number) (defBody s_is_number) (defScope s_is_number) .none kV0 dc0 pm0 an0 cd0 ct0), sl0⟩) (c0 : PySem.W.codeIn K cd0 "is_number" = true) (k0 : PySem.W.keepIn K (.ref f0) = true)
    {f1 : Addr} {od1 an1 : Option Addr} {sl1 : Array (Option Value)} {oc1 kV1 dc1 pm1 cd1 ct1 : Value}
    (a1 : PySem.W.nsIn K mainGlobals "asked_web" = some (some (.ref f1))) (l1 : K.lookup f1 = some ⟨oc1, od1, .func (PySem.W.fnOf "asked_web" "asked_web" (defArgs s_asked_web) (defBody s_asked_web) (defScope s_asked_web) .none kV1 dc1 pm1 an1 cd1 ct1), sl1⟩) (c1 : PySem.W.codeIn K cd1 "asked_web" = true) (k1 : PySem.W.keepIn K (.ref f1) = true)
    {f2 : Addr} {od2 an2 : Option Addr} {sl2 : Array (Option Value)} {oc2 kV2 dc2 pm2 cd2 ct2 : Value}
    (a2 : PySem.W.nsIn K mainGlobals "alike" = some (some (.ref f2))) (l2 : K.lookup f2 = some ⟨oc2, od2, .func (PySem.W.fnOf "alike" "alike" (defArgs s_alike) (defBody s_alike) (defScope s_alike) .none kV2 dc2 pm2 an2 cd2 ct2), sl2⟩) (c2 : PySem.W.codeIn K cd2 "alike" = true) (k2 : PySem.W.keepIn K (.ref f2) = true)
    {f3 : Addr} {od3 an3 : Option Addr} {sl3 : Array (Option Value)} {oc3 kV3 dc3 pm3 cd3 ct3 : Value}
    (a3 : PySem.W.nsIn K mainGlobals "asked_size" = some (some (.ref f3))) (l3 : K.lookup f3 = some ⟨oc3, od3, .func (PySem.W.fnOf "asked_size" "asked_size" (defArgs s_asked_size) (defBody s_asked_size) (defScope s_asked_size) .none kV3 dc3 pm3 an3 cd3 ct3), sl3⟩) (c3 : PySem.W.codeIn K cd3 "asked_size" = true) (k3 : PySem.W.keepIn K (.ref f3) = true)
    {f4 : Addr} {od4 an4 : Option Addr} {sl4 : Array (Option Value)} {oc4 kV4 dc4 pm4 cd4 ct4 : Value}
    (a4 : PySem.W.nsIn K mainGlobals "fewest" = some (some (.ref f4))) (l4 : K.lookup f4 = some ⟨oc4, od4, .func (PySem.W.fnOf "fewest" "fewest" (defArgs s_fewest) (defBody s_fewest) (defScope s_fewest) .none kV4 dc4 pm4 an4 cd4 ct4), sl4⟩) (c4 : PySem.W.codeIn K cd4 "fewest" = true) (k4 : PySem.W.keepIn K (.ref f4) = true)
    {f5 : Addr} {od5 an5 : Option Addr} {sl5 : Array (Option Value)} {oc5 kV5 dc5 pm5 cd5 ct5 : Value}
    (a5 : PySem.W.nsIn K mainGlobals "web_of" = some (some (.ref f5))) (l5 : K.lookup f5 = some ⟨oc5, od5, .func (PySem.W.fnOf "web_of" "web_of" (defArgs s_web_of) (defBody s_web_of) (defScope s_web_of) .none kV5 dc5 pm5 an5 cd5 ct5), sl5⟩) (c5 : PySem.W.codeIn K cd5 "web_of" = true) (k5 : PySem.W.keepIn K (.ref f5) = true)
    {f6 : Addr} {od6 an6 : Option Addr} {sl6 : Array (Option Value)} {oc6 kV6 dc6 pm6 cd6 ct6 : Value}
    (a6 : PySem.W.nsIn K mainGlobals "_law_number" = some (some (.ref f6))) (l6 : K.lookup f6 = some ⟨oc6, od6, .func (PySem.W.fnOf "_law_number" "_law_number" (defArgs s_law_number) (defBody s_law_number) (defScope s_law_number) .none kV6 dc6 pm6 an6 cd6 ct6), sl6⟩) (c6 : PySem.W.codeIn K cd6 "_law_number" = true) (k6 : PySem.W.keepIn K (.ref f6) = true)
    {f7 : Addr} {od7 an7 : Option Addr} {sl7 : Array (Option Value)} {oc7 kV7 dc7 pm7 cd7 ct7 : Value}
    (a7 : PySem.W.nsIn K mainGlobals "_law_fewest" = some (some (.ref f7))) (l7 : K.lookup f7 = some ⟨oc7, od7, .func (PySem.W.fnOf "_law_fewest" "_law_fewest" (defArgs s_law_fewest) (defBody s_law_fewest) (defScope s_law_fewest) .none kV7 dc7 pm7 an7 cd7 ct7), sl7⟩) (c7 : PySem.W.codeIn K cd7 "_law_fewest" = true) (k7 : PySem.W.keepIn K (.ref f7) = true)
    {f8 : Addr} {od8 an8 : Option Addr} {sl8 : Array (Option Value)} {oc8 kV8 dc8 pm8 cd8 ct8 : Value}
    (a8 : PySem.W.nsIn K mainGlobals "_law_is_web" = some (some (.ref f8))) (l8 : K.lookup f8 = some ⟨oc8, od8, .func (PySem.W.fnOf "_law_is_web" "_law_is_web" (defArgs s_law_is_web) (defBody s_law_is_web) (defScope s_law_is_web) .none kV8 dc8 pm8 an8 cd8 ct8), sl8⟩) (c8 : PySem.W.codeIn K cd8 "_law_is_web" = true) (k8 : PySem.W.keepIn K (.ref f8) = true)
    {f9 : Addr} {od9 an9 : Option Addr} {sl9 : Array (Option Value)} {oc9 kV9 dc9 pm9 cd9 ct9 : Value}
    (a9 : PySem.W.nsIn K mainGlobals "_law_small" = some (some (.ref f9))) (l9 : K.lookup f9 = some ⟨oc9, od9, .func (PySem.W.fnOf "_law_small" "_law_small" (defArgs s_law_small) (defBody s_law_small) (defScope s_law_small) .none kV9 dc9 pm9 an9 cd9 ct9), sl9⟩) (c9 : PySem.W.codeIn K cd9 "_law_small" = true) (k9 : PySem.W.keepIn K (.ref f9) = true)
    {f10 : Addr} {od10 an10 : Option Addr} {sl10 : Array (Option Value)} {oc10 kV10 dc10 pm10 cd10 ct10 : Value}
    (a10 : PySem.W.nsIn K mainGlobals "law" = some (some (.ref f10))) (l10 : K.lookup f10 = some ⟨oc10, od10, .func (PySem.W.fnOf "law" "law" (defArgs s_law) (defBody s_law) (defScope s_law) .none kV10 dc10 pm10 an10 cd10 ct10), sl10⟩) (c10 : PySem.W.codeIn K cd10 "law" = true) (k10 : PySem.W.keepIn K (.ref f10) = true)
    (z_all : PySem.W.nsIn K mainGlobals "all" = some none)
    (z_any : PySem.W.nsIn K mainGlobals "any" = some none)
    (z_bool : PySem.W.nsIn K mainGlobals "bool" = some none)
    (z_enumerate : PySem.W.nsIn K mainGlobals "enumerate" = some none)
    (z_int : PySem.W.nsIn K mainGlobals "int" = some none)
    (z_isinstance : PySem.W.nsIn K mainGlobals "isinstance" = some none)
    (z_len : PySem.W.nsIn K mainGlobals "len" = some none)
    (z_list : PySem.W.nsIn K mainGlobals "list" = some none)
    (z_min : PySem.W.nsIn K mainGlobals "min" = some none)
    (z_range : PySem.W.nsIn K mainGlobals "range" = some none)
    (z_str : PySem.W.nsIn K mainGlobals "str" = some none)
    (z_sum : PySem.W.nsIn K mainGlobals "sum" = some none)
    {t_MOST : Tok} (y_MOST : PySem.W.nsIn K mainGlobals "MOST" = some (some (.int 200 t_MOST))) :
    ∃ fd : FuncData, (∀ (s : Shared) (v : Value), BindsTo s fd ⟨[v], []⟩ [("_law_script", v)]) ∧ ∀ base : Heap, K.In base → base.Ns mainGlobals mg → FnOk P w K mg base CX0 4 fa fd ["_law_script"] (sp_law K) := by
  have e := hfa.symm.trans (PySem.W.mg_of X G a10)
  cases e
  have T : Txt K mg := ⟨PySem.W.mg_none_of X G z_all, PySem.W.mg_none_of X G z_any, PySem.W.mg_none_of X G z_bool, PySem.W.mg_none_of X G z_enumerate, PySem.W.mg_none_of X G z_int, PySem.W.mg_none_of X G z_isinstance, PySem.W.mg_none_of X G z_len, PySem.W.mg_none_of X G z_list, PySem.W.mg_none_of X G z_min, PySem.W.mg_none_of X G z_range, PySem.W.mg_none_of X G z_str, PySem.W.mg_none_of X G z_sum, ⟨_, PySem.W.mg_of X G y_MOST⟩⟩
  refine ⟨PySem.W.fnOf "law" "law" (defArgs s_law) (defBody s_law) (defScope s_law) .none kV10 dc10 pm10 an10 cd10 ct10, fun s v => .of_eq rfl, fun base _ _ => ?_⟩
  have D0 : At K mg "is_number" s_is_number ["thing"] := ⟨f0, _, fun_mk (st := s_is_number) l0 c0 k0, PySem.W.mg_of X G a0, (fun_mk (st := s_is_number) l0 c0 k0).binds (ps := ["thing"]) fun _ _ _ _ _ _ us hl => match us, hl with | [_], _ => rfl⟩
  have H_is_number := ok_is_number (P := P) (w := w) (base := base) T D0 
  have D1 : At K mg "asked_web" s_asked_web ["web"] := ⟨f1, _, fun_mk (st := s_asked_web) l1 c1 k1, PySem.W.mg_of X G a1, (fun_mk (st := s_asked_web) l1 c1 k1).binds (ps := ["web"]) fun _ _ _ _ _ _ us hl => match us, hl with | [_], _ => rfl⟩
  have H_asked_web := ok_asked_web (P := P) (w := w) (base := base) T D1 
  have D2 : At K mg "alike" s_alike ["web"] := ⟨f2, _, fun_mk (st := s_alike) l2 c2 k2, PySem.W.mg_of X G a2, (fun_mk (st := s_alike) l2 c2 k2).binds (ps := ["web"]) fun _ _ _ _ _ _ us hl => match us, hl with | [_], _ => rfl⟩
  have H_alike := ok_alike (P := P) (w := w) (base := base) T D2 H_asked_web
  have D3 : At K mg "asked_size" s_asked_size ["size"] := ⟨f3, _, fun_mk (st := s_asked_size) l3 c3 k3, PySem.W.mg_of X G a3, (fun_mk (st := s_asked_size) l3 c3 k3).binds (ps := ["size"]) fun _ _ _ _ _ _ us hl => match us, hl with | [_], _ => rfl⟩
  have H_asked_size := ok_asked_size (P := P) (w := w) (base := base) T D3 H_is_number
  have D4 : At K mg "fewest" s_fewest ["size"] := ⟨f4, _, fun_mk (st := s_fewest) l4 c4 k4, PySem.W.mg_of X G a4, (fun_mk (st := s_fewest) l4 c4 k4).binds (ps := ["size"]) fun _ _ _ _ _ _ us hl => match us, hl with | [_], _ => rfl⟩
  have H_fewest := ok_fewest (P := P) (w := w) (base := base) T D4 H_asked_size
  have D5 : At K mg "web_of" s_web_of ["size"] := ⟨f5, _, fun_mk (st := s_web_of) l5 c5 k5, PySem.W.mg_of X G a5, (fun_mk (st := s_web_of) l5 c5 k5).binds (ps := ["size"]) fun _ _ _ _ _ _ us hl => match us, hl with | [_], _ => rfl⟩
  have H_web_of := ok_web_of (P := P) (w := w) (base := base) T D5 H_asked_size
  have D6 : At K mg "_law_number" s_law_number ["_law_cell", "_law_at", "_law_whole"] := ⟨f6, _, fun_mk (st := s_law_number) l6 c6 k6, PySem.W.mg_of X G a6, (fun_mk (st := s_law_number) l6 c6 k6).binds (ps := ["_law_cell", "_law_at", "_law_whole"]) fun _ _ _ _ _ _ us hl => match us, hl with | [_, _, _], _ => rfl⟩
  have H_law_number := ok_law_number (P := P) (w := w) (base := base) T D6 
  have D7 : At K mg "_law_fewest" s_law_fewest ["_law_size"] := ⟨f7, _, fun_mk (st := s_law_fewest) l7 c7 k7, PySem.W.mg_of X G a7, (fun_mk (st := s_law_fewest) l7 c7 k7).binds (ps := ["_law_size"]) fun _ _ _ _ _ _ us hl => match us, hl with | [_], _ => rfl⟩
  have H_law_fewest := ok_law_fewest (P := P) (w := w) (base := base) T D7 
  have D8 : At K mg "_law_is_web" s_law_is_web ["_law_some", "_law_size"] := ⟨f8, _, fun_mk (st := s_law_is_web) l8 c8 k8, PySem.W.mg_of X G a8, (fun_mk (st := s_law_is_web) l8 c8 k8).binds (ps := ["_law_some", "_law_size"]) fun _ _ _ _ _ _ us hl => match us, hl with | [_, _], _ => rfl⟩
  have H_law_is_web := ok_law_is_web (P := P) (w := w) (base := base) T D8 
  have D9 : At K mg "_law_small" s_law_small ["_law_size", "_law_number_here"] := ⟨f9, _, fun_mk (st := s_law_small) l9 c9 k9, PySem.W.mg_of X G a9, (fun_mk (st := s_law_small) l9 c9 k9).binds (ps := ["_law_size", "_law_number_here"]) fun _ _ _ _ _ _ us hl => match us, hl with | [_, _], _ => rfl⟩
  have H_law_small := ok_law_small (P := P) (w := w) (base := base) T D9 
  exact fn_law T (fun_mk (st := s_law) l10 c10 k10) H_law_number H_fewest H_law_fewest H_web_of H_law_is_web H_alike H_law_small
theorem walk {l : PySem.W.OpenLaw} {q : Program} {loose : List Str} {XP : (Str → Option Value) → Heap → Prop} {YP : World → Heap → Prop} {d : DefRec} {K : Params → PySem.W.Frag} (hn : l.most = some 63) (hdf : d.params.defaults = [])
    (hY : ∀ (w : World) (h : Heap), YP w h → (K w.params).In h)
    (F : ∀ (w : World) (mg : Str → Option Value) (fa : Addr) (h : Heap), (K w.params).In h → h.Ns mainGlobals mg → mg d.name = some (.ref fa) →
      ∃ fd : FuncData, (∀ (s : Shared) (u : Value), BindsTo s fd ⟨[u], []⟩ [("_law_script", u)]) ∧ ∀ base : Heap, (K w.params).In base → base.Ns mainGlobals mg → FnOk l.prog w (K w.params) mg base CX0 4 fa fd ["_law_script"] (sp_law (K w.params))) :
    PySem.W.WalkO q loose XP YP l.row.toRowW d [] (fun f vs => PySem.call f vs) :=
  L2.walk_ofB (n := 63) (k := 4) (x := "_law_script") (CX := fun _ => CX0) (sp := fun w => sp_law (K w.params)) hn (by decide) hdf ⟨rfl, by decide, by decide⟩ hY F
    (fun _ _ a ns hl hb _ hS => ⟨a, ns, rfl, hS, hl, fun z hz => Bt.of_bits (hb z hz), fun _ _ => rfl⟩) fun _ _ _ _ _ z => z
end AK
open PySem PySem.W PyProof.Rows
set_option maxRecDepth 100000 in
set_option maxHeartbeats 0 in
theorem PySem.Challenge.cw_allknown_k02_whole_fewest_holds : PySem.Challenge.rw_allknown_k02_whole_fewest.Holds := by
  w_on; o_law; k_head; (case hw => w_witness2)
  k_fill
  refine AK.walk (l := PySem.Challenge.rw_allknown_k02_whole_fewest) rfl rfl (fun w h Y => PySem.W.kIn_of Y) ?F
  case F =>
    intro w mg fa h KX G hmg
    refine' AK.all_mk KX G hmg ?a0 ?l0 ?c0 ?k0 ?a1 ?l1 ?c1 ?k1 ?a2 ?l2 ?c2 ?k2 ?a3 ?l3 ?c3 ?k3 ?a4 ?l4 ?c4 ?k4 ?a5 ?l5 ?c5 ?k5 ?a6 ?l6 ?c6 ?k6 ?a7 ?l7 ?c7 ?k7 ?a8 ?l8 ?c8 ?k8 ?a9 ?l9 ?c9 ?k9 ?a10 ?l10 ?c10 ?k10 ?z_all ?z_any ?z_bool ?z_enumerate ?z_int ?z_isinstance ?z_len ?z_list ?z_min ?z_range ?z_str ?z_sum ?y_MOST
    (case a0 => k_is)
    (case l0 => k_is)
    (case c0 => k_is)
    (case k0 => k_is)
    (case a1 => k_is)
    (case l1 => k_is)
    (case c1 => k_is)
    (case k1 => k_is)
    (case a2 => k_is)
    (case l2 => k_is)
    (case c2 => k_is)
    (case k2 => k_is)
    (case a3 => k_is)
    (case l3 => k_is)
    (case c3 => k_is)
    (case k3 => k_is)
    (case a4 => k_is)
    (case l4 => k_is)
    (case c4 => k_is)
    (case k4 => k_is)
    (case a5 => k_is)
    (case l5 => k_is)
    (case c5 => k_is)
    (case k5 => k_is)
    (case a6 => k_is)
    (case l6 => k_is)
    (case c6 => k_is)
    (case k6 => k_is)
    (case a7 => k_is)
    (case l7 => k_is)
    (case c7 => k_is)
    (case k7 => k_is)
    (case a8 => k_is)
    (case l8 => k_is)
    (case c8 => k_is)
    (case k8 => k_is)
    (case a9 => k_is)
    (case l9 => k_is)
    (case c9 => k_is)
    (case k9 => k_is)
    (case a10 => k_is)
    (case l10 => k_is)
    (case c10 => k_is)
    (case k10 => k_is)
    (case z_all => k_is)
    (case z_any => k_is)
    (case z_bool => k_is)
    (case z_enumerate => k_is)
    (case z_int => k_is)
    (case z_isinstance => k_is)
    (case z_len => k_is)
    (case z_list => k_is)
    (case z_min => k_is)
    (case z_range => k_is)
    (case z_str => k_is)
    (case z_sum => k_is)
    (case y_MOST => k_is)
