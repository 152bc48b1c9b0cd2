import PyProof.Rows.All
import Wide.All
import OpenK.AllK
import Wide.FinOn
import Lean
import PySem.Challenge.RW_xm0069_01
open PySem PySem.W PyProof.Rows
set_option Elab.async false
namespace Mine
set_option maxRecDepth 100000 in
set_option maxHeartbeats 8000000 in
open_top hd for PySem.Challenge.rw_xm0069_01
local macro_rules | `(tactic| walk_at "last exec While") => `(tactic| k_extra "mywhile")
local macro_rules | `(tactic| k_mem) => `(tactic| first | exact List.mem_cons_self | (refine List.mem_cons_of_mem _ ?_; k_mem) | with_reducible assumption)
local macro_rules | `(tactic| walk_at "InvPostG") => `(tactic| k_extra "mypost")
local macro_rules | `(tactic| k_all) => `(tactic| assumption)
local macro_rules | `(tactic| walk_at "subscriptTail") => `(tactic| k_extra "item")
theorem freshMir : True := by
  w_top off
  k_with_none
  exact trivial
abbrev P2 := Int × Int
abbrev T3 := Int × Int × Int
def bd (x : Int) : Bool := Nat.blt x.natAbs 1048576
def absI (x : Int) : Int := if x < 0 then -x else x

def gcdL : Nat → Int → Int → Option Int
  | 0, _, _ => none
  | k + 1, a, b => if b = 0 then some a else gcdL k b (a.fmod b)
def gcdF (a b : Int) : Option Int := gcdL 64 (absI a) (absI b)

def extL : Nat → T3 → T3 → Option T3
  | 0, _, _ => none
  | k + 1, x, y =>
    if y.1 = 0 then some x
    else if bd x.1 && bd x.2.1 && bd x.2.2 && bd y.1 && bd y.2.1 && bd y.2.2 then
      extL k y (x.1 - x.1.fdiv y.1 * y.1, x.2.1 - x.1.fdiv y.1 * y.2.1, x.2.2 - x.1.fdiv y.1 * y.2.2)
    else none
def extF (a b : Int) : Option T3 := (extL 64 (a, 1, 0) (b, 0, 1)).bind fun x => if 0 ≤ x.1 then some x else none
def invF (a m : Int) : Option (Option Int) :=
  if m = 0 then none else (extF (a.fmod m) m).bind fun x => if x.1 = 1 then some (some (x.2.1.fmod m)) else some none

def ratF (t b : Int) : Option P2 := if 0 < b then (gcdF t b).bind fun g => if g = 0 then none else if bd g then some (t.fdiv g, b.fdiv g) else none else none
def b4 (a b : P2) : Bool := bd a.1 && bd a.2 && bd b.1 && bd b.2
def raddF (a b : P2) : Option P2 := if b4 a b then ratF (a.1 * b.2 + b.1 * a.2) (a.2 * b.2) else none
def rsubF (a b : P2) : Option P2 := if b4 a b then ratF (a.1 * b.2 - b.1 * a.2) (a.2 * b.2) else none
def rcmpF (a b : P2) : Option Int := if b4 a b then some ((if a.1 * b.2 - b.1 * a.2 > 0 then 1 else 0) - (if a.1 * b.2 - b.1 * a.2 < 0 then 1 else 0)) else none

def frL : Nat → P2 → List Int → Option (List Int)
  | 0, _, _ => none
  | k + 1, r, acc => if r.2 = 0 then none else
    (rsubF r (r.1.fdiv r.2, 1)).bind fun r' => if r'.1 = 0 then some (acc ++ [r.1.fdiv r.2]) else
      (ratF r'.2 r'.1).bind fun r'' => frL k r'' (acc ++ [r.1.fdiv r.2])
def distF (a b : P2) : Option P2 := (rsubF a b).bind fun f => some (absI f.1, f.2)
/-- true: the one; false: the other -/
def nearF (r one other : P2) : Option Bool :=
  (distF r one).bind fun d => (distF r other).bind fun e => (rcmpF d e).bind fun side =>
    some (if side = 0 then decide (one.2 ≤ other.2) else decide (side < 0))

def bestL (most : Int) : List Int → P2 → P2 → Option (P2 × P2)
  | [], before, here => some (before, here)
  | w :: ws, before, here =>
    if bd w && b4 before here then
      if w * here.2 + before.2 > most then some (before, here)
      else bestL most ws here (w * here.1 + before.1, w * here.2 + before.2)
    else none
def bestF (r : P2) (most : Int) : Option P2 :=
  if most < 1 then none else if r.2 ≤ most then some r else
    (frL 64 r []).bind fun ws => (bestL most ws (0, 1) (1, 0)).bind fun (before, here) =>
      if here.2 = 0 then none else
      if bd most && b4 before here then
        let many := (most - before.2).fdiv here.2
        if bd many then
          let bt : P2 := (before.1 + many * here.1, before.2 + many * here.2)
          if bt.2 > 0 then (nearF r here bt).bind fun q => some (if q then here else bt) else some here
        else none
      else none

def farL (n : Int) : Nat → P2 → P2 → List P2 → List Int → Option (List P2 × List Int)
  | 0, _, _, _, _ => none
  | k + 1, one, other, found, times =>
    if other.1 ≤ other.2 then
      if other.2 = 0 then none else
      if bd n && b4 one other && bd ((n + one.2).fdiv other.2) then
        farL n k other ((n + one.2).fdiv other.2 * other.1 - one.1, (n + one.2).fdiv other.2 * other.2 - one.2) (found ++ [other]) (times ++ [(n + one.2).fdiv other.2])
      else none
    else some (found, times)
def farF (n : Int) : Option (List P2 × List Int) := farL n 64 (0, 1) (1, n) [(0, 1)] []

def lbestF (row : List P2) (r : P2) : Option P2 :=
  if r ∈ row then some r else
    if row.all fun one => b4 one r then
      let at_ := (row.filter fun one => one.1 * r.2 < r.1 * one.2).length
      if at_ = 0 then none else
      (row[at_ - 1]?).bind fun low => (row[at_]?).bind fun high =>
        if bd r.1 && bd r.2 then
        let left := (r.1 * low.2 - low.1 * r.2) * high.2
        let right := (high.1 * r.2 - r.1 * high.2) * low.2
        if left = right then some (if low.2 < high.2 then low else high) else some (if left < right then low else high)
        else none
    else none

/-- one turn of the law's loop at place i: the new total -/
def turnF (n : Int) (one other : P2) (total : P2) : Option P2 :=
  if one.2 > n then none else
  (ratF one.1 one.2).bind fun q => if q ≠ one then none else
  (rcmpF one other).bind fun c => if c ≠ -1 then none else
  (invF one.1 one.2).bind fun u => match u with
    | none => none
    | some u => if one.2 = 0 then none else if other.2 ≠ n - (n + u).fmod one.2 then none else
      if b4 one other then raddF total (1, one.2 * other.2) else none
def turnsF (n : Int) : List P2 → P2 → Option P2
  | one :: other :: rest, total => (turnF n one other total).bind fun t => turnsF n (other :: rest) t
  | _, total => some total

def unitsIn (by_ : Int) : Nat → Option (List Int)
  | 0 => some []
  | k + 1 => (unitsIn by_ k).bind fun l => (invF (k : Int) by_).bind fun u => match u with
    | none => some l
    | some _ => some (l ++ [1])
def unitsF : Nat → Option (List Int)
  | 0 => some []
  | k + 1 => (unitsF k).bind fun l => (unitsIn ((k : Int) + 1) (k + 1)).bind fun l' => some (l ++ l')

def midF (n : Nat) : Option (List P2) :=
  (farF n).bind fun (row, times) => (turnsF n row (0, 1)).bind fun total => (unitsF n).bind fun units =>
    if row.getLast? ≠ some (1, 1) then none else if row.length ≠ 1 + units.length then none else if total ≠ (1, 1) then none else
    if (row.reverse.map fun one => (one.2 - one.1, one.2)) ≠ row then none else
    if times.sum ≠ 3 * row.length - 4 then none else
    some row
def finF (n : Nat) (row : List P2) (r : P2) : Bool := match bestF r n, lbestF row r with
  | some a, some b => a == b
  | _, _ => false
def finB (n b : Nat) (row : List P2) : Bool := (List.range (n + 1 + b + 1)).all fun c =>
  match ratF c ((n + 1 + b : Nat) : Int) with
  | some r => bd r.1 && bd r.2 && Nat.blt 0 r.2.toNat && finF n row r
  | none => false
def finAll (n : Nat) (row : List P2) : Bool := (List.range 12).all fun b => finB n b row
def allF (n : Nat) : Bool := match midF n with
  | some row => finAll n row
  | none => false
/-- a third of the bottoms at a time -/
def partF (n lo : Nat) : Bool := match midF n with
  | some row => (List.range 3).all fun b => finB n (lo + b) row
  | none => false
theorem allF_of {n : Nat} (h0 : partF n 0 = true) (h1 : partF n 3 = true) (h2 : partF n 6 = true) (h3 : partF n 9 = true) : allF n = true := by
  unfold partF at h0 h1 h2 h3
  unfold allF
  cases em : midF n with
  | none => rw [em] at h0; cases h0
  | some row =>
    rw [em] at h0 h1 h2 h3
    simp only at h0 h1 h2 h3 ⊢
    unfold finAll
    rw [List.all_eq_true] at h0 h1 h2 h3 ⊢
    intro b hb
    have hb2 := List.mem_range.mp hb
    have hc : b = 0 + b ∧ b < 3 ∨ b = 3 + (b - 3) ∧ b - 3 < 3 ∨ b = 6 + (b - 6) ∧ b - 6 < 3 ∨ b = 9 + (b - 9) ∧ b - 9 < 3 := by omega
    rcases hc with ⟨e, l⟩ | ⟨e, l⟩ | ⟨e, l⟩ | ⟨e, l⟩
    · have q := h0 b (List.mem_range.mpr l); rw [← e] at q; exact q
    · have q := h1 (b - 3) (List.mem_range.mpr l); rw [← e] at q; exact q
    · have q := h2 (b - 6) (List.mem_range.mpr l); rw [← e] at q; exact q
    · have q := h3 (b - 9) (List.mem_range.mpr l); rw [← e] at q; exact q
theorem freshBase : True := by
  w_top off
  k_with_none
  exact trivial
def Hold (p : Prop) : Prop := p
theorem hold {p : Prop} (h : Hold p) : p := h
theorem bd_iff {x : Int} : bd x = true ↔ -1048576 < x ∧ x < 1048576 := by
  unfold bd
  rw [Nat.blt_eq]
  omega
abbrev tupO (vs : List Value) : Obj := { cls := .type "tuple", data := .seq vs.toArray }

/-- what a call of the def at f with the values vs does: from every frame that calls it, with news on the ledger, it comes back with a value and a ledger that R tells -/
def CallC (w : World) (mean : ExcName → Option Value) (mg mb : Str → Option Value) (k : Nat) (f : Addr) (vs : List Value) (news : List (Addr × Obj)) (R : Value → List (Addr × Obj) → Prop) : Prop :=
  ∀ (dp un : Nat) (gd : Option (List Code)) (cn : Str) (cs : Scope) (a : Addr) (ccd : Value) (cl : List (Str × Addr)) (outer : List Env) (A₀ : Around) (base h₀ : Heap) (L : Addr) (m : Str → Option Value) (s : Shared) (Q E : Value → Shared → Prop),
    Below A₀ base outer h₀ → Fr h₀ L s.heap m → (hd.heap_39 w.params).In h₀ → News h₀ L s.heap news → Top hd.view_39 (looseW hd.view_39 []) mean mg mb h₀ → cs.kind = .function → dp + k < recursionLimit → un + 8 * k < cLine →
    (∀ v nx h' tk', Fr h₀ L h' m → News h₀ L h' nx → R v nx → Q v { s with heap := h', toks := tk' }) →
    wpAny (model PySem.Challenge.rw_xm0069_01.row.prog w) (ktrTop dp un gd cn cs L a ccd cl outer) (PySem.call (.ref f) vs) Q E s

section
variable {w : World} {mean : ExcName → Option Value} {mg mb : Str → Option Value} {k : Nat} {f : Addr} {vs : List Value} {news : List (Addr × Obj)} {R : Value → List (Addr × Obj) → Prop}
  {dp un : Nat} {gd : Option (List Code)} {cn : Str} {cs : Scope} {a : Addr} {ccd : Value} {cl : List (Str × Addr)} {outer : List Env} {A₀ : Around} {base h₀ : Heap} {L : Addr} {m : Str → Option Value} {s : Shared} {Q E : Value → Shared → Prop}
theorem CallC.use (B : Below A₀ base outer h₀) (F : Fr h₀ L s.heap m) (X : (hd.heap_39 w.params).In h₀) (N : News h₀ L s.heap news) (T : Top hd.view_39 (looseW hd.view_39 []) mean mg mb h₀) (hk : cs.kind = .function)
    (C : CallC w mean mg mb k f vs news R) (hd : dp + k < recursionLimit) (hu : un + 8 * k < cLine)
    (ret : ∀ v nx h' tk', Fr h₀ L h' m → News h₀ L h' nx → R v nx → Q v { s with heap := h', toks := tk' }) :
    wpAny (model PySem.Challenge.rw_xm0069_01.row.prog w) (ktrTop dp un gd cn cs L a ccd cl outer) (PySem.call (.ref f) vs) Q E s :=
  C _ _ _ _ _ _ _ _ _ _ _ _ _ _ _ _ _ B F X N T hk hd hu ret
end
theorem freshGcd : True := by
  w_top off
  k_with_none
  exact trivial
theorem gcdL_step {k : Nat} {a b g : Int} (h : gcdL k a b = some g) : ∃ k', k = k' + 1 ∧ (b = 0 → a = g) ∧ (b ≠ 0 → gcdL k' b (a.fmod b) = some g) := by
  cases k with
  | zero => cases h
  | succ k =>
    refine ⟨k, rfl, fun e => ?_, fun e => ?_⟩
    · simpa [gcdL, e] using h
    · simpa [gcdL, e] using h
set_option maxRecDepth 100000 in
set_option maxHeartbeats 8000000 in
theorem gcd_c (w : World) (mean : ExcName → Option Value) (mg mb : Str → Option Value) (a b : Int) (t u : Tok) (g : Int) (hg : gcdF a b = some g) (news : List (Addr × Obj)) :
    CallC w mean mg mb 1 21 [.int a t, .int b u] news (fun v nx => nx = news ∧ ∃ t', v = .int g t') := by
  intro dp un gd cn cs fa ccd cl outer A₀ base h₀ L m s Q E B F X N T hk hd hu hret
  refine wpAny_call ?_
  k_dflt ktr_enter
  k_with_none
  k_with "exec While Compare cons nil" => (
    rename Fr _ _ _ _ => F1
    rename News _ _ _ _ => N1
    refine' ksw_while (σ := Nat × (Int × Tok) × (Int × Tok)) (fun _ => news) (fun c => [(Str.ofString "a", .int c.2.1.1 c.2.1.2), (Str.ofString "b", .int c.2.2.1 c.2.2.2)]) (fun _ => True) [] (fun c => gcdL c.1 c.2.1.1 c.2.2.1 = some g) (fun c => c.1) (64, (_, _), (_, _)) F1 ?kn True.intro ?kk ?kp ?turn ?hE
    case hE => first | passes_own | with_unfolding_all passes_own
    case kn => exact fun p hp => N1 p (.tail _ hp)
    case kk => (intro p hp; simp only [List.mem_cons, List.not_mem_nil, or_false] at hp; rcases hp with rfl | rfl <;> rfl)
    case kp => exact hg
    rintro ⟨k, ⟨x, tx⟩, ⟨y, ty⟩⟩ kU kH kTk kFacts kInv kFr kNews
    dsimp only at kInv kFr kNews ⊢
    dsimp only [kstB] at kFr
    obtain ⟨k', rfl, h0, h1⟩ := gcdL_step kInv
    clear F1 N1
    try k_fold)
  k_steps
  · refine' ksw_end (k', (_, _), (_, _)) ?F ?N (fun _ h => h) trivial ?hk ?hr ?hp ?hm
    case F => assumption
    case N => rename News _ _ _ _ => N1; exact fun p hp => N1 p (.tail _ hp)
    case hk => (refine List.forall_mem_cons.mpr ⟨?hk1, List.forall_mem_cons.mpr ⟨?hk2, List.forall_mem_nil _⟩⟩; (case hk1 => with_unfolding_all rfl); (case hk2 => with_unfolding_all rfl))
    case hr => ksw_same
    case hp => exact h1 (by assumption)
    case hm => exact Nat.lt_succ_self _
  · refine hret _ _ _ _ (by assumption) (by assumption) ⟨rfl, _, by rw [h0 (by assumption)]⟩
local macro_rules | `(tactic| walk_at "call ref") => `(tactic| (k_here; (with_reducible show wpAny _ _ (PySem.call (Value.ref 21) _) _ _ _); (k_dflt (refine' CallC.use ?k1 ?k2 ?k3 ?k4 ?k5 ?kK (gcd_c _ _ _ _ _ _ _ _ _ ?kg _) ?kd ?ku ?_)); (case k1 => k_asm); (case k2 => k_asm); (case k3 => k_asm); (case k4 => k_asm); (case k5 => k_asm); (case kK => k_dflt (first | exact rfl | assumption)); (case kg => first | assumption | (dsimp only; assumption) | k_extra "kg"); (case kd => first | exact Nat.le_of_ble_eq_true rfl | ktr_room); (case ku => first | exact Nat.le_of_ble_eq_true rfl | ktr_units); (rintro v nx h' tk' F' N' ⟨hn, t', hv⟩); subst hn; subst hv; (try k_fold)))
theorem freshExt : True := by
  w_top off
  k_with_none
  exact trivial
structure E3 where
  D : Addr
  x : T3
  t1 : Tok
  t2 : Tok
  t3 : Tok
abbrev E3.o (e : E3) : Obj := { cls := .type "tuple", data := .seq #[.int e.x.1 e.t1, .int e.x.2.1 e.t2, .int e.x.2.2 e.t3] }
theorem extL_step {k : Nat} {x y r : T3} (h : extL k x y = some r) : ∃ k', k = k' + 1 ∧ (y.1 = 0 → x = r) ∧
    (y.1 ≠ 0 → ((-1048576 < x.1 ∧ x.1 < 1048576) ∧ (-1048576 < x.2.1 ∧ x.2.1 < 1048576) ∧ (-1048576 < x.2.2 ∧ x.2.2 < 1048576) ∧ (-1048576 < y.1 ∧ y.1 < 1048576) ∧ (-1048576 < y.2.1 ∧ y.2.1 < 1048576) ∧ (-1048576 < y.2.2 ∧ y.2.2 < 1048576)) ∧
      extL k' y (x.1 - x.1.fdiv y.1 * y.1, x.2.1 - x.1.fdiv y.1 * y.2.1, x.2.2 - x.1.fdiv y.1 * y.2.2) = some r) := by
  cases k with
  | zero => cases h
  | succ k =>
    refine ⟨k, rfl, fun e => ?_, fun e => ?_⟩
    · simpa [extL, e] using h
    · simp only [extL, if_neg e] at h
      split at h
      · rename_i hb
        simp only [Bool.and_eq_true, bd_iff] at hb
        exact ⟨by omega, h⟩
      · cases h
theorem extF_step {a b : Int} {r : T3} (h : extF a b = some r) : extL 64 (a, 1, 0) (b, 0, 1) = some r ∧ 0 ≤ r.1 := by
  unfold extF at h
  cases e : extL 64 (a, 1, 0) (b, 0, 1) with
  | none => rw [e] at h; cases h
  | some x =>
    rw [e] at h
    simp only [Option.bind_some] at h
    split at h
    · cases h; exact ⟨rfl, by assumption⟩
    · cases h
set_option maxRecDepth 100000 in
set_option maxHeartbeats 8000000 in
theorem ext_c (w : World) (mean : ExcName → Option Value) (mg mb : Str → Option Value) (a b : Int) (t u : Tok) (r : T3) (hg : extF a b = some r) (news : List (Addr × Obj)) :
    CallC w mean mg mb 1 28 [.int a t, .int b u] news (fun v nx => ∃ e : E3, e.x = r ∧ v = .ref e.D ∧ nx = (e.D, e.o) :: news) := by
  intro dp un gd cn cs fa ccd cl outer A₀ base h₀ L m s Q E B F X N T hk hd hu hret
  obtain ⟨hg, hr0⟩ := extF_step hg
  refine wpAny_call ?_
  k_dflt ktr_enter
  k_with_none
  k_with "exec While Compare cons nil" => (
    rename Fr _ _ _ _ => F1
    rename News _ _ _ _ => N1
    refine' ksw_while (σ := Nat × E3 × E3) (fun c => (c.2.1.D, c.2.1.o) :: (c.2.2.D, c.2.2.o) :: news) (fun c => [(Str.ofString "one", .ref c.2.1.D), (Str.ofString "other", .ref c.2.2.D)]) (fun _ => True) [Str.ofString "times", Str.ofString "rest"] (fun c => extL c.1 c.2.1.x c.2.2.x = some r) (fun c => c.1) (64, ⟨_, (a, 1, 0), _, _, _⟩, ⟨_, (b, 0, 1), _, _, _⟩) F1 ?kn True.intro ?kk ?kp ?turn ?hE
    case hE => first | passes_own | with_unfolding_all passes_own
    case kk => (refine List.forall_mem_cons.mpr ⟨?hk1, List.forall_mem_cons.mpr ⟨?hk2, List.forall_mem_nil _⟩⟩; (case hk1 => with_unfolding_all rfl); (case hk2 => with_unfolding_all rfl))
    case kn => exact List.forall_mem_cons.mpr ⟨N1 _ (by k_mem), List.forall_mem_cons.mpr ⟨N1 _ (by k_mem), fun p hp => N1 p (.tail _ (.tail _ (.tail _ hp)))⟩⟩
    case kp => exact hg
    rintro ⟨k, ⟨D1, ⟨x1, x2, x3⟩, t1, t2, t3⟩, ⟨D2, ⟨y1, y2, y3⟩, u1, u2, u3⟩⟩ kU kH kTk kFacts kInv kFr kNews
    dsimp only [E3.o] at kInv kFr kNews ⊢
    dsimp only [kstB] at kFr
    obtain ⟨k', rfl, h0, h1⟩ := extL_step kInv
    dsimp only at h0 h1
    clear F1 N1
    try k_fold)
  k_steps
  · rename News _ _ _ _ => N1
    refine' ksw_end (k', ⟨D2, (y1, y2, y3), u1, u2, u3⟩, ⟨_, (_, _, _), _, _, _⟩) ?F N1 ?hn trivial ?hk ?hr ?hp ?hm
    case F => assumption
    case hk => (refine List.forall_mem_cons.mpr ⟨?hk1, List.forall_mem_cons.mpr ⟨?hk2, List.forall_mem_nil _⟩⟩; (case hk1 => with_unfolding_all rfl); (case hk2 => with_unfolding_all rfl))
    case hn => exact List.forall_mem_cons.mpr ⟨by k_mem, List.forall_mem_cons.mpr ⟨by k_mem, fun p hp => .tail _ (.tail _ (.tail _ (.tail _ hp)))⟩⟩
    case hr => ksw_same
    case hp => exact (h1 (by assumption)).2
    case hm => exact Nat.lt_succ_self _
  · rename News _ _ _ _ => N1
    exact hret _ _ _ _ (by assumption) (fun p hp => N1 p ((List.mem_cons.mp hp).elim (fun e => e ▸ .head _) fun h => .tail _ (.tail _ h))) ⟨⟨D1, (x1, x2, x3), t1, t2, t3⟩, h0 (by assumption), rfl, rfl⟩
  · exfalso
    have := h0 (by assumption)
    subst this
    dsimp only at hr0
    omega
local macro_rules | `(tactic| walk_at "call ref") => `(tactic| (k_here; (with_reducible show wpAny _ _ (PySem.call (Value.ref 28) _) _ _ _); (k_dflt (refine' CallC.use ?k1 ?k2 ?k3 ?k4 ?k5 ?kK (ext_c _ _ _ _ _ _ _ _ _ ?kg _) ?kd ?ku ?_)); (case k1 => k_asm); (case k2 => k_asm); (case k3 => k_asm); (case k4 => k_asm); (case k5 => k_asm); (case kK => k_dflt (first | exact rfl | assumption)); (case kg => first | assumption | (dsimp only; assumption) | k_extra "kg"); (case kd => first | exact Nat.le_of_ble_eq_true rfl | ktr_room); (case ku => first | exact Nat.le_of_ble_eq_true rfl | ktr_units); (rintro v nx h' tk' F' N' ⟨⟨D', ⟨x1, x2, x3⟩, t1, t2, t3⟩, hx, hv, hn⟩); subst hn; subst hv; (dsimp only [E3.o] at hx N' ⊢); (cases hx); (try k_fold)))
theorem freshInv : True := by
  w_top off
  k_with_none
  exact trivial
def OptV (r : Option Int) (v : Value) : Prop := match r with
  | some i => ∃ t, v = .int i t
  | none => v = .none
theorem invF_step {a m : Int} {r : Option Int} (h : invF a m = some r) : m ≠ 0 ∧ ∃ x, extF (a.fmod m) m = some x ∧ (x.1 = 1 → r = some (x.2.1.fmod m)) ∧ (x.1 ≠ 1 → r = none) := by
  unfold invF at h
  split at h
  · cases h
  · rename_i hm
    refine ⟨hm, ?_⟩
    cases e : extF (a.fmod m) m with
    | none => rw [e] at h; cases h
    | some x =>
      rw [e] at h
      simp only [Option.bind_some] at h
      refine ⟨x, rfl, fun q => ?_, fun q => ?_⟩
      · rw [if_pos q] at h; exact (Option.some.inj h).symm
      · rw [if_neg q] at h; exact (Option.some.inj h).symm
set_option maxRecDepth 100000 in
set_option maxHeartbeats 8000000 in
theorem inv_c (w : World) (mean : ExcName → Option Value) (mg mb : Str → Option Value) (a b : Int) (t u : Tok) (r : Option Int) (hg : invF a b = some r) (news : List (Addr × Obj)) :
    CallC w mean mg mb 2 35 [.int a t, .int b u] news (fun v nx => nx = news ∧ OptV r v) := by
  intro dp un gd cn cs fa ccd cl outer A₀ base h₀ L m s Q E B F X N T hk hd hu hret
  obtain ⟨hb, ⟨x1, x2, x3⟩, hx, h1, h2⟩ := invF_step hg
  dsimp only at h1 h2
  refine wpAny_call ?_
  k_dflt ktr_enter
  k_with_none
  k_steps
  · rename News _ _ _ _ => N1
    exact hret _ _ _ _ (by assumption) (fun p hp => N1 p (.tail _ hp)) ⟨rfl, by rw [h1 (by assumption)]; exact ⟨_, rfl⟩⟩
  · rename News _ _ _ _ => N1
    exact hret _ _ _ _ (by assumption) (fun p hp => N1 p (.tail _ hp)) ⟨rfl, by rw [h2 (by assumption)]; exact rfl⟩
theorem invs_c (w : World) (mean : ExcName → Option Value) (mg mb : Str → Option Value) (a b : Int) (t u : Tok) (r : Int) (hg : invF a b = some (some r)) (news : List (Addr × Obj)) :
    CallC w mean mg mb 2 35 [.int a t, .int b u] news (fun v nx => nx = news ∧ ∃ t', v = .int r t') := inv_c w mean mg mb a b t u (some r) hg news
theorem invn_c (w : World) (mean : ExcName → Option Value) (mg mb : Str → Option Value) (a b : Int) (t u : Tok) (hg : invF a b = some none) (news : List (Addr × Obj)) :
    CallC w mean mg mb 2 35 [.int a t, .int b u] news (fun v nx => nx = news ∧ v = .none) := inv_c w mean mg mb a b t u none hg news
local macro_rules | `(tactic| walk_at "call ref") => `(tactic| (k_here; (with_reducible show wpAny _ _ (PySem.call (Value.ref 35) _) _ _ _); (k_dflt (refine' CallC.use ?k1 ?k2 ?k3 ?k4 ?k5 ?kK (invs_c _ _ _ _ _ _ _ _ _ ?kg _) ?kd ?ku ?_)); (case k1 => k_asm); (case k2 => k_asm); (case k3 => k_asm); (case k4 => k_asm); (case k5 => k_asm); (case kK => k_dflt (first | exact rfl | assumption)); (case kg => first | assumption | (dsimp only; assumption) | k_extra "kg"); (case kd => first | exact Nat.le_of_ble_eq_true rfl | ktr_room); (case ku => first | exact Nat.le_of_ble_eq_true rfl | ktr_units); (rintro v nx h' tk' F' N' ⟨hn, t', hv⟩); subst hn; subst hv; (try k_fold)))
local macro_rules | `(tactic| walk_at "call ref") => `(tactic| (k_here; (with_reducible show wpAny _ _ (PySem.call (Value.ref 35) _) _ _ _); (k_dflt (refine' CallC.use ?k1 ?k2 ?k3 ?k4 ?k5 ?kK (invn_c _ _ _ _ _ _ _ _ ?kg _) ?kd ?ku ?_)); (case k1 => k_asm); (case k2 => k_asm); (case k3 => k_asm); (case k4 => k_asm); (case k5 => k_asm); (case kK => k_dflt (first | exact rfl | assumption)); (case kg => first | assumption | (dsimp only; assumption) | k_extra "kg"); (case kd => first | exact Nat.le_of_ble_eq_true rfl | ktr_room); (case ku => first | exact Nat.le_of_ble_eq_true rfl | ktr_units); (rintro v nx h' tk' F' N' ⟨hn, hv⟩); subst hn; subst hv; (try k_fold)))
theorem freshLoops : True := by
  w_top off
  k_with_none
  exact trivial
def JS {σ : Type} (ent : σ → List (Addr × Obj)) (ps : σ → List (Str × Value)) (Facts : σ → Prop) (x : Str) (stored : List Str) (m₀ : Str → Option Value) (P : Nat → σ → Prop) (i : Nat) (m : Str → Option Value) (nx : List (Addr × Obj)) : Prop :=
  ∃ c, nx = ent c ∧ Facts c ∧ (∀ p ∈ ps c, m p.1 = some p.2) ∧ (∀ z, z ≠ x → (∀ p ∈ ps c, z ≠ p.1) → stored.contains z = false → m z = m₀ z) ∧ P i c
def FrX (h₀ : Heap) (L : Addr) (h : Heap) (x : Str) (v : Option Value) (stored : List Str) (u m₀ : Str → Option Value) (ps : List (Str × Value)) : Prop :=
  Fr h₀ L h (fun y => if y = x then v else kstB (fun z => if stored.contains z then u z else m₀ z) ps y)
theorem js_end {σ : Type} {ent : σ → List (Addr × Obj)} {ps : σ → List (Str × Value)} {Facts : σ → Prop} {x : Str} {stored : List Str} {m₀ : Str → Option Value} {P : Nat → σ → Prop} {i : Nat} {h₀ h' : Heap} {L : Addr} {m' : Str → Option Value} {own news' : List (Addr × Obj)} {s₁ : Shared} {tk : Nat} (c : σ)
    (F : Fr h₀ L h' m') (N : News h₀ L h' news') (ho : ∀ p ∈ own, p ∈ news') (hn : ∀ p ∈ ent c, p ∈ news') (hk : ∀ p ∈ ps c, m' p.1 = some p.2) (hr : ∀ z, z ≠ x → (∀ p ∈ ps c, z ≠ p.1) → stored.contains z = false → m' z = m₀ z) (ha : ∀ q ∈ ent c, ∀ p ∈ own, p.1 ≠ q.1) (hf : Facts c) (hp : P i c) :
    InvEndG h₀ L (JS ent ps Facts x stored m₀ P i) own s₁ { s₁ with heap := h', toks := tk } :=
  InvEndG.intro F N ⟨c, rfl, hf, hk, hr, hp⟩ (fun p hp b hb => by obtain ⟨q, hq, rfl⟩ := List.mem_map.mp hb; exact ha q hq p hp) hn ho
section
variable {prog : Program} {w : World} {A : Around} {E : Value → Shared → Prop} {s : Shared} {env : Env} {h₀ : Heap} {x : Str} {body : List Stmt} {Q : Flow → Shared → Prop}
theorem off_of {own nx : List (Addr × Obj)} (h : OwnOff own (nx.map (·.1))) : ∀ q ∈ nx, ∀ p ∈ own, p.1 ≠ q.1 := fun q hq p hp => h p hp _ (List.mem_map.mpr ⟨q, hq, rfl⟩)
theorem my_list {σ : Type} {l : Addr} {vs : List Value} {nn : Nat} {m₀ : Str → Option Value} {news : List (Addr × Obj)} (ent : σ → List (Addr × Obj)) (ps : σ → List (Str × Value)) (Facts : σ → Prop) (stored : List Str) (P : Nat → σ → Prop) (c₀ : σ)
    (hh : A.handled = none) (F : Fr h₀ env.locals s.heap m₀) (N : News h₀ env.locals s.heap news) (hl : ∀ c, (l, PySem.W.listOf vs.toArray nn) ∈ ent c) (hn : ∀ p ∈ ent c₀, p ∈ news) (hf : Facts c₀) (hk : ∀ p ∈ ps c₀, m₀ p.1 = some p.2) (hp : P 0 c₀)
    (turn : ∀ i c v (u : Str → Option Value) h tk own, vs[i]? = some v → (∀ q ∈ ent c, ∀ p ∈ own, p.1 ≠ q.1) → Facts c → P i c → FrX h₀ env.locals h x (some v) stored u m₀ (ps c) → News h₀ env.locals h (ent c ++ own) →
      wpAny (model prog w) A (execs body env) (InvPostG h₀ env.locals (JS ent ps Facts x stored m₀ P (i + 1)) own { s with heap := h, toks := tk } Q) E { s with heap := h, toks := tk })
    (done : ∀ c (u : Str → Option Value) h tk, Facts c → P vs.length c → FrX h₀ env.locals h x (u x) stored u m₀ (ps c) → News h₀ env.locals h (ent c) → Q .next { s with heap := h, toks := tk }) :
    wpAny (model prog w) A (pyIter (.ref l)) (fun it s₂ => LoopAtV prog w A h₀ env x body Q E it s₂) E s := by
  refine kdl_iter (nn := nn) (fun i m nx => JS ent ps Facts x stored m₀ P i m nx) hh (hl c₀) F (fun p hp => N p (hn p hp)) ⟨c₀, rfl, hf, hk, fun _ _ _ _ => rfl, hp⟩ ?_ ?_
  · rintro i v m₁ nx h tk own hv hoff _ ⟨c, rfl, hf', h1, h2, hp'⟩ F₁ N₁
    refine wpAny_mono (turn i c v m₁ h tk own hv (off_of hoff) hf' hp' (kst_fr h1 h2 F₁) N₁) (fun f s₂ p => ?_) fun _ _ x => x
    have up : InvEndG h₀ env.locals (JS ent ps Facts x stored m₀ P (i + 1)) own { s with heap := h, toks := tk } s₂ →
        InvEndG h₀ env.locals (fun m' nx => (l, PySem.W.listOf vs.toArray nn) ∈ nx ∧ JS ent ps Facts x stored m₀ P (i + 1) m' nx) own { s with heap := h, toks := tk } s₂ := by
      rintro ⟨h', tk', m', news', nx', e', F', N', hn', ho', ha, hS⟩
      refine ⟨h', tk', m', news', nx', e', F', N', hn', ho', ha, ?_, hS⟩
      obtain ⟨c', rfl, _⟩ := hS
      exact hl c'
    cases f with
    | ret v => exact p
    | brk => exact p
    | next => exact up p
    | cont => exact up p
  · rintro m₁ nx h tk ⟨c, rfl, hf', h1, h2, hp'⟩ F₁ N₁
    refine done c m₁ h tk hf' hp' ?_ N₁
    have := kst_frOut h1 h2 F₁
    unfold FrX
    have e : (fun y => if y = x then m₁ x else kstB (fun z => if stored.contains z then m₁ z else m₀ z) (ps c) y) = (fun y => if y = x then m₁ y else kstB (fun z => if stored.contains z then m₁ z else m₀ z) (ps c) y) := by
      funext y
      by_cases hy : y = x
      · rw [if_pos hy, if_pos hy, hy]
      · rw [if_neg hy, if_neg hy]
    rw [e]
    exact this
theorem my_range {σ : Type} {r : Addr} {a₀ b₀ : Int} {t₀ u₀ v₀ : Tok} {n : Nat} {m₀ : Str → Option Value} {news : List (Addr × Obj)} (ent : σ → List (Addr × Obj)) (ps : σ → List (Str × Value)) (Facts : σ → Prop) (stored : List Str) (P : Nat → σ → Prop) (c₀ : σ)
    (hh : A.handled = none) (hr : IsRange s.heap r a₀ b₀ 1 t₀ u₀ v₀) (hsmall : Builtin.Range.small a₀ b₀ 1 = true) (hsz : Builtin.Range.rangeSize a₀ b₀ 1 = (n : Int)) (F : Fr h₀ env.locals s.heap m₀) (N : News h₀ env.locals s.heap news) (hn : ∀ p ∈ ent c₀, p ∈ news) (hf : Facts c₀) (hk : ∀ p ∈ ps c₀, m₀ p.1 = some p.2) (hp : P 0 c₀)
    (turn : ∀ i c t (u : Str → Option Value) h tk own, i < n → (∀ q ∈ ent c, ∀ p ∈ own, p.1 ≠ q.1) → Facts c → P i c → FrX h₀ env.locals h x (some (.int (a₀ + (i : Int)) t)) stored u m₀ (ps c) → News h₀ env.locals h (ent c ++ own) →
      wpAny (model prog w) A (execs body env) (InvPostG h₀ env.locals (JS ent ps Facts x stored m₀ P (i + 1)) own { s with heap := h, toks := tk } Q) E { s with heap := h, toks := tk })
    (done : ∀ c (u : Str → Option Value) h tk, Facts c → P n c → FrX h₀ env.locals h x (u x) stored u m₀ (ps c) → News h₀ env.locals h (ent c) → Q .next { s with heap := h, toks := tk }) :
    wpAny (model prog w) A (pyIter (.ref r)) (fun it s₂ => LoopAtV prog w A h₀ env x body Q E it s₂) E s := by
  refine wpAny_pyIter_range hr hsmall ?_
  have W : Walks prog w A s.heap.objs.size [s.heap.objs.size] [s.heap.objs.size] n (fun i v => i < n ∧ ∃ t, v = .int (a₀ + i * 1) t)
      (fun i h => IsRangeIter h s.heap.objs.size (a₀ + (i : Nat) * 1) ((n : Int) - (i : Nat)) 1) := (Walks.range hh _ a₀ 1 n).bound
  refine kdr_loop (fun i m nx => JS ent ps Facts x stored m₀ P i m nx) W (fun _ h => h) (fun _ h => h) ?_ ?_ ?_ ?_ (by show IsRangeIter _ _ _ _ _; rw [hsz]; simpa using Heap.get?_push_size _ rfl) (F.push _) (fun p hp => ⟨Heap.get?_push_of_some _ (N p (hn p hp)).1, (N p (hn p hp)).2⟩) ⟨c₀, rfl, hf, hk, fun _ _ _ _ => rfl, hp⟩ ?_ ?_
  · intro i h hi b hb
    rw [List.mem_singleton.mp hb]
    exact ⟨_, hi⟩
  · intro hm
    exact absurd F.ns.lt ((List.mem_singleton.mp hm) ▸ Nat.lt_irrefl _)
  · intro b hb
    rw [List.mem_singleton.mp hb]
    exact next_is_new F
  · intro p hp hI
    exact absurd (Heap.lt_size (N p (hn p hp)).1) ((List.mem_singleton.mp hI) ▸ Nat.lt_irrefl _)
  · rintro i v m₁ nx h tk own hi ⟨_, t, rfl⟩ hoff ⟨c, rfl, hf', h1, h2, hp'⟩ F₁ N₁
    rw [Int.mul_one] at F₁
    exact turn i c t m₁ h tk own hi (off_of hoff) hf' hp' (kst_fr h1 h2 F₁) N₁
  · rintro m₁ nx h tk ⟨c, rfl, hf', h1, h2, hp'⟩ F₁ N₁
    refine done c m₁ h tk hf' hp' ?_ N₁
    have := kst_frOut h1 h2 F₁
    unfold FrX
    have e : (fun y => if y = x then m₁ x else kstB (fun z => if stored.contains z then m₁ z else m₀ z) (ps c) y) = (fun y => if y = x then m₁ y else kstB (fun z => if stored.contains z then m₁ z else m₀ z) (ps c) y) := by
      funext y
      by_cases hy : y = x
      · rw [if_pos hy, if_pos hy, hy]
      · rw [if_neg hy, if_neg hy]
    rw [e]
    exact this
end
theorem freshRat : True := by
  w_top off
  k_with_none
  exact trivial
structure E2 where
  D : Addr
  x : P2
  t1 : Tok
  t2 : Tok
abbrev E2.o (e : E2) : Obj := { cls := .type "tuple", data := .seq #[.int e.x.1 e.t1, .int e.x.2 e.t2] }
theorem ratF_step {t b : Int} {r : P2} (h : ratF t b = some r) : 0 < b ∧ ∃ g, gcdF t b = some g ∧ g ≠ 0 ∧ (-1048576 < g ∧ g < 1048576) ∧ r = (t.fdiv g, b.fdiv g) := by
  unfold ratF at h
  split at h
  · rename_i hb
    refine ⟨hb, ?_⟩
    cases e : gcdF t b with
    | none => rw [e] at h; cases h
    | some g =>
      rw [e] at h
      simp only [Option.bind_some] at h
      split at h
      · cases h
      · rename_i h0
        split at h
        · rename_i hb
          exact ⟨g, rfl, h0, bd_iff.mp hb, (Option.some.inj h).symm⟩
        · cases h
  · cases h
set_option maxRecDepth 100000 in
set_option maxHeartbeats 8000000 in
theorem rat_c (w : World) (mean : ExcName → Option Value) (mg mb : Str → Option Value) (a b : Int) (t u : Tok) (r : P2) (hg : ratF a b = some r) (news : List (Addr × Obj)) :
    CallC w mean mg mb 2 62 [.int a t, .int b u] news (fun v nx => ∃ e : E2, e.x = r ∧ v = .ref e.D ∧ nx = (e.D, e.o) :: news ∧ ∀ p ∈ news, p.1 < e.D) := by
  intro dp un gd cn cs fa ccd cl outer A₀ base h₀ L m s Q E B F X N T hk hd hu hret
  obtain ⟨hb, g, hg1, hg0, ⟨hg2, hg3⟩, hr⟩ := ratF_step hg
  refine wpAny_call ?_
  k_dflt ktr_enter
  k_with_none
  k_steps
  · exfalso
    omega
  · exact hret _ _ _ _ (by assumption) (by assumption) ⟨⟨_, (_, _), _, _⟩, hr.symm, rfl, rfl, by assumption⟩
local macro_rules | `(tactic| walk_at "call ref") => `(tactic| (k_here; (with_reducible show wpAny _ _ (PySem.call (Value.ref 62) _) _ _ _); (k_dflt (refine' CallC.use ?k1 ?k2 ?k3 ?k4 ?k5 ?kK (rat_c _ _ _ _ _ _ _ _ _ ?kg _) ?kd ?ku ?_)); (case k1 => k_asm); (case k2 => k_asm); (case k3 => k_asm); (case k4 => k_asm); (case k5 => k_asm); (case kK => k_dflt (first | exact rfl | assumption)); (case kg => first | assumption | (dsimp only; assumption) | k_extra "kg"); (case kd => first | exact Nat.le_of_ble_eq_true rfl | ktr_room); (case ku => first | exact Nat.le_of_ble_eq_true rfl | ktr_units); (rintro v nx h' tk' F' N' ⟨⟨D', ⟨x1, x2⟩, t1, t2⟩, hx, hv, hn, l1⟩); subst hn; subst hv; (dsimp only [E2.o] at hx N' l1 ⊢); (cases hx); (try k_lt l1); (try k_fold)))
theorem freshArith : True := by
  w_top off
  k_with_none
  exact trivial
abbrev o2 (x y : Int) (t u : Tok) (n : Nat) : Obj := { cls := .type "tuple", data := .seq #[.int x t, .int y u] n }
theorem b4_iff {a b c d : Int} : b4 (a, b) (c, d) = true ↔ (-1048576 < a ∧ a < 1048576) ∧ (-1048576 < b ∧ b < 1048576) ∧ (-1048576 < c ∧ c < 1048576) ∧ (-1048576 < d ∧ d < 1048576) := by
  simp only [b4, Bool.and_eq_true, bd_iff, and_assoc]
theorem raddF_step {a b c d : Int} {r : P2} (h : raddF (a, b) (c, d) = some r) : ((-1048576 < a ∧ a < 1048576) ∧ (-1048576 < b ∧ b < 1048576) ∧ (-1048576 < c ∧ c < 1048576) ∧ (-1048576 < d ∧ d < 1048576)) ∧ ratF (a * d + c * b) (b * d) = some r := by
  unfold raddF at h
  split at h
  · rename_i hb; exact ⟨b4_iff.mp hb, h⟩
  · cases h
theorem rsubF_step {a b c d : Int} {r : P2} (h : rsubF (a, b) (c, d) = some r) : ((-1048576 < a ∧ a < 1048576) ∧ (-1048576 < b ∧ b < 1048576) ∧ (-1048576 < c ∧ c < 1048576) ∧ (-1048576 < d ∧ d < 1048576)) ∧ ratF (a * d - c * b) (b * d) = some r := by
  unfold rsubF at h
  split at h
  · rename_i hb; exact ⟨b4_iff.mp hb, h⟩
  · cases h
theorem rcmp_val (e : Int) : b2i (decide (0 < e)) - b2i (decide (e < 0)) = (if e > 0 then 1 else 0) - (if e < 0 then 1 else 0) := by
  simp only [b2i, decide_eq_true_eq, gt_iff_lt]
theorem rcmpF_step {a b c d : Int} {r : Int} (h : rcmpF (a, b) (c, d) = some r) : ((-1048576 < a ∧ a < 1048576) ∧ (-1048576 < b ∧ b < 1048576) ∧ (-1048576 < c ∧ c < 1048576) ∧ (-1048576 < d ∧ d < 1048576)) ∧ (if a * d - c * b > 0 then 1 else 0) - (if a * d - c * b < 0 then 1 else 0) = r := by
  unfold rcmpF at h
  split at h
  · rename_i hb; exact ⟨b4_iff.mp hb, Option.some.inj h⟩
  · cases h
set_option maxRecDepth 100000 in
set_option maxHeartbeats 8000000 in
theorem radd_c (w : World) (mean : ExcName → Option Value) (mg mb : Str → Option Value) (a b c d : Int) (ta tb tc td : Tok) (na nb : Nat) (A₁ B₁ : Addr) (r : P2) (hg : raddF (a, b) (c, d) = some r) (news : List (Addr × Obj)) (hA : (A₁, o2 a b ta tb na) ∈ news) (hB : (B₁, o2 c d tc td nb) ∈ news) :
    CallC w mean mg mb 3 69 [.ref A₁, .ref B₁] news (fun v nx => ∃ e : E2, e.x = r ∧ v = .ref e.D ∧ nx = (e.D, e.o) :: news ∧ ∀ p ∈ news, p.1 < e.D) := by
  intro dp un gd cn cs fa ccd cl outer A₀ base h₀ L m s Q E B F X N T hk hd hu hret
  obtain ⟨hb, hg⟩ := raddF_step hg
  obtain ⟨r1, r2⟩ := r
  refine wpAny_call ?_
  k_dflt ktr_enter
  k_with_none
  k_steps
  · rename News _ _ _ _ => N1
    exact hret _ _ _ _ (by assumption) N1 ⟨⟨_, (_, _), _, _⟩, rfl, rfl, rfl, by assumption⟩
set_option maxRecDepth 100000 in
set_option maxHeartbeats 8000000 in
theorem rsub_c (w : World) (mean : ExcName → Option Value) (mg mb : Str → Option Value) (a b c d : Int) (ta tb tc td : Tok) (na nb : Nat) (A₁ B₁ : Addr) (r : P2) (hg : rsubF (a, b) (c, d) = some r) (news : List (Addr × Obj)) (hA : (A₁, o2 a b ta tb na) ∈ news) (hB : (B₁, o2 c d tc td nb) ∈ news) :
    CallC w mean mg mb 3 76 [.ref A₁, .ref B₁] news (fun v nx => ∃ e : E2, e.x = r ∧ v = .ref e.D ∧ nx = (e.D, e.o) :: news ∧ ∀ p ∈ news, p.1 < e.D) := by
  intro dp un gd cn cs fa ccd cl outer A₀ base h₀ L m s Q E B F X N T hk hd hu hret
  obtain ⟨hb, hg⟩ := rsubF_step hg
  obtain ⟨r1, r2⟩ := r
  refine wpAny_call ?_
  k_dflt ktr_enter
  k_with_none
  k_steps
  · rename News _ _ _ _ => N1
    exact hret _ _ _ _ (by assumption) N1 ⟨⟨_, (_, _), _, _⟩, rfl, rfl, rfl, by assumption⟩
set_option maxRecDepth 100000 in
set_option maxHeartbeats 8000000 in
theorem rinv_c (w : World) (mean : ExcName → Option Value) (mg mb : Str → Option Value) (a b : Int) (ta tb : Tok) (na : Nat) (A₁ : Addr) (r : P2) (hg : ratF b a = some r) (news : List (Addr × Obj)) (hA : (A₁, o2 a b ta tb na) ∈ news) :
    CallC w mean mg mb 3 83 [.ref A₁] news (fun v nx => ∃ e : E2, e.x = r ∧ v = .ref e.D ∧ nx = (e.D, e.o) :: news ∧ ∀ p ∈ news, p.1 < e.D) := by
  intro dp un gd cn cs fa ccd cl outer A₀ base h₀ L m s Q E B F X N T hk hd hu hret
  obtain ⟨r1, r2⟩ := r
  refine wpAny_call ?_
  k_dflt ktr_enter
  k_with_none
  k_steps
  · rename News _ _ _ _ => N1
    exact hret _ _ _ _ (by assumption) N1 ⟨⟨_, (_, _), _, _⟩, rfl, rfl, rfl, by assumption⟩
set_option maxRecDepth 100000 in
set_option maxHeartbeats 8000000 in
theorem rcmp_c (w : World) (mean : ExcName → Option Value) (mg mb : Str → Option Value) (a b c d : Int) (ta tb tc td : Tok) (na nb : Nat) (A₁ B₁ : Addr) (r : Int) (hg : rcmpF (a, b) (c, d) = some r) (news : List (Addr × Obj)) (hA : (A₁, o2 a b ta tb na) ∈ news) (hB : (B₁, o2 c d tc td nb) ∈ news) :
    CallC w mean mg mb 1 90 [.ref A₁, .ref B₁] news (fun v nx => nx = news ∧ ∃ t, v = .int r t) := by
  intro dp un gd cn cs fa ccd cl outer A₀ base h₀ L m s Q E B F X N T hk hd hu hret
  obtain ⟨hb, hg⟩ := rcmpF_step hg
  refine wpAny_call ?_
  k_dflt ktr_enter
  k_with_none
  k_steps
  exact hret _ _ _ _ (by assumption) (by assumption) ⟨rfl, _, by rw [← hg, rcmp_val]⟩
set_option maxRecDepth 100000 in
set_option maxHeartbeats 8000000 in
theorem rfloor_c (w : World) (mean : ExcName → Option Value) (mg mb : Str → Option Value) (a b : Int) (ta tb : Tok) (na : Nat) (A₁ : Addr) (hb : b ≠ 0) (hb2 : -1048576 < b ∧ b < 1048576) (news : List (Addr × Obj)) (hA : (A₁, o2 a b ta tb na) ∈ news) :
    CallC w mean mg mb 1 97 [.ref A₁] news (fun v nx => nx = news ∧ ∃ t, v = .int (a.fdiv b) t) := by
  intro dp un gd cn cs fa ccd cl outer A₀ base h₀ L m s Q E B F X N T hk hd hu hret
  skip
  refine wpAny_call ?_
  k_dflt ktr_enter
  k_with_none
  k_steps
  exact hret _ _ _ _ (by assumption) (by assumption) ⟨rfl, _, rfl⟩
local macro_rules | `(tactic| walk_at "call ref") => `(tactic| (k_here; (with_reducible show wpAny _ _ (PySem.call (Value.ref 69) _) _ _ _); (k_dflt (refine' CallC.use ?k1 ?k2 ?k3 ?k4 ?k5 ?kK (radd_c _ _ _ _ _ _ _ _ _ _ _ _ _ _ _ _ _ ?kg _ ?kA ?kB) ?kd ?ku ?_)); (case k1 => k_asm); (case k2 => k_asm); (case k3 => k_asm); (case k4 => k_asm); (case k5 => k_asm); (case kK => k_dflt (first | exact rfl | assumption)); (case kA => k_mem); (case kB => k_mem); (case kg => first | assumption | (dsimp only; assumption) | k_extra "kg"); (case kd => first | exact Nat.le_of_ble_eq_true rfl | ktr_room); (case ku => first | exact Nat.le_of_ble_eq_true rfl | ktr_units); (rintro v nx h' tk' F' N' ⟨⟨D', ⟨x1, x2⟩, t1, t2⟩, hx, hv, hn, l1⟩); subst hn; subst hv; (dsimp only [E2.o] at hx N' l1 ⊢); (cases hx); (try k_lt l1); (try k_fold)))
local macro_rules | `(tactic| walk_at "call ref") => `(tactic| (k_here; (with_reducible show wpAny _ _ (PySem.call (Value.ref 76) _) _ _ _); (k_dflt (refine' CallC.use ?k1 ?k2 ?k3 ?k4 ?k5 ?kK (rsub_c _ _ _ _ _ _ _ _ _ _ _ _ _ _ _ _ _ ?kg _ ?kA ?kB) ?kd ?ku ?_)); (case k1 => k_asm); (case k2 => k_asm); (case k3 => k_asm); (case k4 => k_asm); (case k5 => k_asm); (case kK => k_dflt (first | exact rfl | assumption)); (case kA => k_mem); (case kB => k_mem); (case kg => first | assumption | (dsimp only; assumption) | k_extra "kg"); (case kd => first | exact Nat.le_of_ble_eq_true rfl | ktr_room); (case ku => first | exact Nat.le_of_ble_eq_true rfl | ktr_units); (rintro v nx h' tk' F' N' ⟨⟨D', ⟨x1, x2⟩, t1, t2⟩, hx, hv, hn, l1⟩); subst hn; subst hv; (dsimp only [E2.o] at hx N' l1 ⊢); (cases hx); (try k_lt l1); (try k_fold)))
local macro_rules | `(tactic| walk_at "call ref") => `(tactic| (k_here; (with_reducible show wpAny _ _ (PySem.call (Value.ref 83) _) _ _ _); (k_dflt (refine' CallC.use ?k1 ?k2 ?k3 ?k4 ?k5 ?kK (rinv_c _ _ _ _ _ _ _ _ _ _ _ ?kg _ ?kA) ?kd ?ku ?_)); (case k1 => k_asm); (case k2 => k_asm); (case k3 => k_asm); (case k4 => k_asm); (case k5 => k_asm); (case kK => k_dflt (first | exact rfl | assumption)); (case kA => k_mem); (case kg => first | assumption | (dsimp only; assumption) | k_extra "kg"); (case kd => first | exact Nat.le_of_ble_eq_true rfl | ktr_room); (case ku => first | exact Nat.le_of_ble_eq_true rfl | ktr_units); (rintro v nx h' tk' F' N' ⟨⟨D', ⟨x1, x2⟩, t1, t2⟩, hx, hv, hn, l1⟩); subst hn; subst hv; (dsimp only [E2.o] at hx N' l1 ⊢); (cases hx); (try k_lt l1); (try k_fold)))
local macro_rules | `(tactic| walk_at "call ref") => `(tactic| (k_here; (with_reducible show wpAny _ _ (PySem.call (Value.ref 90) _) _ _ _); (k_dflt (refine' CallC.use ?k1 ?k2 ?k3 ?k4 ?k5 ?kK (rcmp_c _ _ _ _ _ _ _ _ _ _ _ _ _ _ _ _ _ ?kg _ ?kA ?kB) ?kd ?ku ?_)); (case k1 => k_asm); (case k2 => k_asm); (case k3 => k_asm); (case k4 => k_asm); (case k5 => k_asm); (case kK => k_dflt (first | exact rfl | assumption)); (case kA => k_mem); (case kB => k_mem); (case kg => first | assumption | (dsimp only; assumption) | k_extra "kg"); (case kd => first | exact Nat.le_of_ble_eq_true rfl | ktr_room); (case ku => first | exact Nat.le_of_ble_eq_true rfl | ktr_units); (rintro v nx h' tk' F' N' ⟨hn, t', hv⟩); subst hn; subst hv; (try k_fold)))
local macro_rules | `(tactic| walk_at "call ref") => `(tactic| (k_here; (with_reducible show wpAny _ _ (PySem.call (Value.ref 97) _) _ _ _); (k_dflt (refine' CallC.use ?k1 ?k2 ?k3 ?k4 ?k5 ?kK (rfloor_c _ _ _ _ _ _ _ _ _ _ ?kg ?kh _ ?kA) ?kd ?ku ?_)); (case k1 => k_asm); (case k2 => k_asm); (case k3 => k_asm); (case k4 => k_asm); (case k5 => k_asm); (case kK => k_dflt (first | exact rfl | assumption)); (case kA => k_mem); (case kh => first | assumption | omega); (case kg => first | assumption | omega | (dsimp only; assumption)); (case kd => first | exact Nat.le_of_ble_eq_true rfl | ktr_room); (case ku => first | exact Nat.le_of_ble_eq_true rfl | ktr_units); (rintro v nx h' tk' F' N' ⟨hn, t', hv⟩); subst hn; subst hv; (try k_fold)))
theorem freshFrow : True := by
  w_top off
  k_with_none
  exact trivial
theorem at_head {p : Prop} {h₀ h : Heap} {L F : Addr} {o : Obj} {rest : List (Addr × Obj)} (N : News h₀ L h ((F, o) :: rest)) (k : ∀ F', F' = F → p) : p := have _ := N; k F rfl
theorem ne_of_cls {h₀ h : Heap} {L : Addr} {news : List (Addr × Obj)} (N : News h₀ L h news) {p q : Addr × Obj} (hp : p ∈ news) (hq : q ∈ news) (hc : p.2.cls ≠ q.2.cls) : p.1 ≠ q.1 := by
  intro e
  have h1 := (N p hp).1
  have h2 := (N q hq).1
  rw [e, h2] at h1
  exact hc (congrArg Obj.cls (Option.some.inj h1)).symm
theorem ne_of_cls2 {h₀ h : Heap} {L D F : Addr} {o o' : Obj} {news : List (Addr × Obj)} (N : News h₀ L h news) (hp : (D, o) ∈ news) (hq : (F, o') ∈ news) (hc : o.cls ≠ o'.cls) : D ≠ F := ne_of_cls N hp hq hc
theorem frL_step {k : Nat} {a b : Int} {acc ws : List Int} (h : frL k (a, b) acc = some ws) : ∃ k' r1 r2 q1 q2, k = k' + 1 ∧ b ≠ 0 ∧ (-1048576 < b ∧ b < 1048576) ∧ rsubF (a, b) (a.fdiv b, 1) = some (r1, r2) ∧ (r1 = 0 → ws = acc ++ [a.fdiv b]) ∧
    (r1 ≠ 0 → ratF r2 r1 = some (q1, q2) ∧ frL k' (q1, q2) (acc ++ [a.fdiv b]) = some ws) := by
  cases k with
  | zero => cases h
  | succ k =>
    simp only [frL] at h
    split at h
    · cases h
    · rename_i hb
      cases e : rsubF (a, b) (a.fdiv b, 1) with
      | none => rw [e] at h; cases h
      | some r =>
        obtain ⟨r1, r2⟩ := r
        rw [e] at h
        simp only [Option.bind_some] at h
        have hbb := (rsubF_step e).1.2.1
        by_cases h0 : r1 = 0
        · rw [if_pos h0] at h
          exact ⟨k, r1, r2, 0, 0, rfl, hb, hbb, rfl, fun _ => (Option.some.inj h).symm, fun q => absurd h0 q⟩
        · rw [if_neg h0] at h
          cases e2 : ratF r2 r1 with
          | none => rw [e2] at h; cases h
          | some q =>
            obtain ⟨q1, q2⟩ := q
            rw [e2] at h
            simp only [Option.bind_some] at h
            exact ⟨k, r1, r2, q1, q2, rfl, hb, hbb, rfl, fun q => absurd q h0, fun _ => ⟨e2, h⟩⟩
structure FR where
  k : Nat
  a : Int
  b : Int
  D : Addr
  t : Tok
  u : Tok
  n : Nat
  vs : List Value
  acc : List Int
  c : Nat
theorem ints_push {vs : List Value} {ns : List Int} (h : IntsAre vs ns) (x : Int) (t : Tok) : IntsAre (vs ++ [.int x t]) (ns ++ [x]) := by
  induction h with
  | nil => exact .cons _ _ .nil
  | cons n t _ ih => exact .cons n t ih
set_option maxRecDepth 100000 in
set_option maxHeartbeats 8000000 in
theorem frow_c (w : World) (mean : ExcName → Option Value) (mg mb : Str → Option Value) (a b : Int) (ta tb : Tok) (na : Nat) (A₁ : Addr) (ws : List Int) (hg : frL 64 (a, b) [] = some ws) (news : List (Addr × Obj)) (hA : (A₁, o2 a b ta tb na) ∈ news) :
    CallC w mean mg mb 4 104 [.ref A₁] news (fun v nx => ∃ D vs c, v = .ref D ∧ nx = (D, listOf vs.toArray c) :: news ∧ IntsAre vs ws ∧ ws.length ≤ 64) := by
  intro dp un gd cn cs fa ccd cl outer A₀ base h₀ L m s Q E B F X N T hk hd hu hret
  refine wpAny_call ?_
  k_dflt ktr_enter
  k_with_none
  k_with "kg" => exact (hq (by assumption)).1
  k_with "mywhile" => refine hold ?_
  k_steps
  unfold Hold
  rename News _ _ _ _ => N1
  refine at_head N1 ?_
  intro F0 eF
  subst eF
  rename Fr _ _ _ _ => F1
  refine' ksw_while (σ := FR) (fun c => (F0, listOf c.vs.toArray c.c) :: (c.D, o2 c.a c.b c.t c.u c.n) :: news) (fun c => [(Str.ofString "r", .ref c.D)]) (fun c => IntsAre c.vs c.acc ∧ c.D ≠ F0) [Str.ofString "whole"] (fun c => frL c.k (c.a, c.b) c.acc = some ws ∧ c.acc.length + c.k ≤ 64) (fun c => c.k) ⟨64, a, b, A₁, ta, tb, na, [], [], _⟩ F1 ?kn ?kf ?kk ?kp ?turn ?hE
  case hE => first | passes_own | with_unfolding_all passes_own
  case kk => (refine List.forall_mem_cons.mpr ⟨?hk1, List.forall_mem_nil _⟩; (case hk1 => with_unfolding_all rfl))
  case kn => exact List.forall_mem_cons.mpr ⟨N1 _ (by k_mem), List.forall_mem_cons.mpr ⟨N1 _ (.tail _ hA), fun p hp => N1 p (.tail _ hp)⟩⟩
  case kf => exact ⟨.nil, (ne_of_cls N1 (.head _) (.tail _ hA) (by dsimp only; intro e; exact absurd (Value.type.inj e) (by decide))).symm⟩
  case kp => exact ⟨hg, Nat.le_refl _⟩
  rintro ⟨k, a, b, D, t, u, n, vs, acc, c⟩ kU kH kTk kFacts kInv kFr kNews
  dsimp only [o2, PySem.W.listOf] at kFacts kInv kFr kNews ⊢
  dsimp only [kstB] at kFr
  obtain ⟨hi, hne⟩ := kFacts
  obtain ⟨hf, hlen⟩ := kInv
  obtain ⟨k', r1, r2, q1, q2, rfl, hb, hbb, hs, h0, hq⟩ := frL_step hf
  have hlen2 := hi.length
  have hlen3 : vs.length ≤ 64 := by omega
  clear F1 N1
  try k_fold
  k_steps
  · rename News _ _ _ _ => N1
    have e := h0 (by assumption)
    exact hret _ _ _ _ (by assumption) (List.forall_mem_cons.mpr ⟨N1 _ (by k_mem), fun p hp => N1 p (by repeat (first | exact hp | refine List.Mem.tail _ ?_))⟩) ⟨F0, _, _, rfl, rfl, by rw [e]; exact ints_push hi _ _, by rw [e, List.length_append, List.length_singleton]; omega⟩
  · rename News _ _ _ _ => N1
    have e := hq (by assumption)
    refine' ksw_end ⟨k', q1, q2, _, _, _, _, vs ++ [.int (a.fdiv b) _], acc ++ [a.fdiv b], _⟩ ?F N1 ?hn ⟨?hi, ?hne⟩ ?hk ?hr ⟨e.2, ?hl⟩ ?hm
    case F => assumption
    case hk => (refine List.forall_mem_cons.mpr ⟨?hk1, List.forall_mem_nil _⟩; (case hk1 => with_unfolding_all rfl))
    case hn => exact List.forall_mem_cons.mpr ⟨by k_mem, List.forall_mem_cons.mpr ⟨by k_mem, fun p hp => (by repeat (first | exact hp | refine List.Mem.tail _ ?_))⟩⟩
    case hne => exact ne_of_cls2 N1 (by k_mem) (by k_mem) (by dsimp only; intro e; exact absurd (Value.type.inj e) (by decide))
    case hr => ksw_same
    case hl => ((try dsimp only); rw [List.length_append, List.length_singleton]; (try dsimp only at hlen); omega)
    case hm => exact Nat.lt_succ_self _
    case hi => exact ints_push hi _ _
local macro_rules | `(tactic| walk_at "call ref") => `(tactic| (k_here; (with_reducible show wpAny _ _ (PySem.call (Value.ref 104) _) _ _ _); (k_dflt (refine' CallC.use ?k1 ?k2 ?k3 ?k4 ?k5 ?kK (frow_c _ _ _ _ _ _ _ _ _ _ _ ?kg _ ?kA) ?kd ?ku ?_)); (case k1 => k_asm); (case k2 => k_asm); (case k3 => k_asm); (case k4 => k_asm); (case k5 => k_asm); (case kK => k_dflt (first | exact rfl | assumption)); (case kA => k_mem); (case kg => first | assumption | (dsimp only; assumption) | k_extra "kg"); (case kd => first | exact Nat.le_of_ble_eq_true rfl | ktr_room); (case ku => first | exact Nat.le_of_ble_eq_true rfl | ktr_units); (rintro v nx h' tk' F' N' ⟨D', vs', c', hv, hn, hi, hl⟩); subst hn; subst hv; (try k_fold)))
theorem freshDist : True := by
  w_top off
  k_with_none
  exact trivial
theorem distF_step {a b c d : Int} {r : P2} (h : distF (a, b) (c, d) = some r) : ∃ f1 f2, rsubF (a, b) (c, d) = some (f1, f2) ∧ r = (if f1 < 0 then -f1 else f1, f2) := by
  unfold distF at h
  cases e : rsubF (a, b) (c, d) with
  | none => rw [e] at h; cases h
  | some f =>
    rw [e] at h
    exact ⟨f.1, f.2, rfl, (Option.some.inj h).symm⟩
set_option maxRecDepth 100000 in
set_option maxHeartbeats 8000000 in
theorem dist_c (w : World) (mean : ExcName → Option Value) (mg mb : Str → Option Value) (a b c d : Int) (ta tb tc td : Tok) (na nb : Nat) (A₁ B₁ : Addr) (r : P2) (hg : distF (a, b) (c, d) = some r) (news : List (Addr × Obj)) (hA : (A₁, o2 a b ta tb na) ∈ news) (hB : (B₁, o2 c d tc td nb) ∈ news) :
    CallC w mean mg mb 4 111 [.ref A₁, .ref B₁] news (fun v nx => ∃ e : E2, e.x = r ∧ v = .ref e.D ∧ nx = (e.D, e.o) :: news ∧ ∀ p ∈ news, p.1 < e.D) := by
  intro dp un gd cn cs fa ccd cl outer A₀ base h₀ L m s Q E B F X N T hk hd hu hret
  obtain ⟨f1, f2, hg, rfl⟩ := distF_step hg
  refine wpAny_call ?_
  k_dflt ktr_enter
  k_with_none
  k_steps
  rename News _ _ _ _ => N1
  exact hret _ _ _ _ (by assumption) (List.forall_mem_cons.mpr ⟨N1 _ (.head _), fun p hp => N1 p (by repeat (first | exact hp | refine List.Mem.tail _ ?_))⟩) ⟨⟨_, (_, _), _, _⟩, rfl, rfl, rfl, (by first | assumption | exact fun p hp => ktn_ltOf (And.right (by assumption)) p hp)⟩
local macro_rules | `(tactic| walk_at "call ref") => `(tactic| (k_here; (with_reducible show wpAny _ _ (PySem.call (Value.ref 111) _) _ _ _); (k_dflt (refine' CallC.use ?k1 ?k2 ?k3 ?k4 ?k5 ?kK (dist_c _ _ _ _ _ _ _ _ _ _ _ _ _ _ _ _ _ ?kg _ ?kA ?kB) ?kd ?ku ?_)); (case k1 => k_asm); (case k2 => k_asm); (case k3 => k_asm); (case k4 => k_asm); (case k5 => k_asm); (case kK => k_dflt (first | exact rfl | assumption)); (case kA => k_mem); (case kB => k_mem); (case kg => first | assumption | (dsimp only; assumption) | k_extra "kg"); (case kd => first | exact Nat.le_of_ble_eq_true rfl | ktr_room); (case ku => first | exact Nat.le_of_ble_eq_true rfl | ktr_units); (rintro v nx h' tk' F' N' ⟨⟨D', ⟨x1, x2⟩, t1, t2⟩, hx, hv, hn, l1⟩); subst hn; subst hv; (dsimp only [E2.o] at hx N' l1 ⊢); (cases hx); (try k_lt l1); (try k_fold)))
theorem freshNear : True := by
  w_top off
  k_with_none
  exact trivial
theorem nearF_step {a b c d e f : Int} {q : Bool} (h : nearF (a, b) (c, d) (e, f) = some q) : ∃ d1 d2 e1 e2 side, distF (a, b) (c, d) = some (d1, d2) ∧ distF (a, b) (e, f) = some (e1, e2) ∧ rcmpF (d1, d2) (e1, e2) = some side ∧ q = (if side = 0 then decide (d ≤ f) else decide (side < 0)) := by
  unfold nearF at h
  cases h1 : distF (a, b) (c, d) with
  | none => rw [h1] at h; cases h
  | some x =>
    rw [h1] at h
    simp only [Option.bind_some] at h
    cases h2 : distF (a, b) (e, f) with
    | none => rw [h2] at h; cases h
    | some y =>
      rw [h2] at h
      simp only [Option.bind_some] at h
      cases h3 : rcmpF x y with
      | none => rw [h3] at h; cases h
      | some side =>
        rw [h3] at h
        exact ⟨x.1, x.2, y.1, y.2, side, rfl, rfl, h3, (Option.some.inj h).symm⟩
theorem near1 {side d f : Int} {q : Bool} {B C : Addr} (hq : q = if side = 0 then decide (d ≤ f) else decide (side < 0)) (h1 : side = 0) (h2 : d ≤ f) : Value.ref B = Value.ref (if q = true then B else C) := by
  subst hq; simp [h1, h2]
theorem near2 {side d f : Int} {q : Bool} {B C : Addr} (hq : q = if side = 0 then decide (d ≤ f) else decide (side < 0)) (h1 : side = 0) (h2 : ¬ d ≤ f) : Value.ref C = Value.ref (if q = true then B else C) := by
  subst hq; simp [h1, h2]
theorem near3 {side d f : Int} {q : Bool} {B C : Addr} (hq : q = if side = 0 then decide (d ≤ f) else decide (side < 0)) (h1 : ¬ side = 0) (h2 : side < 0) : Value.ref B = Value.ref (if q = true then B else C) := by
  subst hq; simp [h1, h2]
theorem near4 {side d f : Int} {q : Bool} {B C : Addr} (hq : q = if side = 0 then decide (d ≤ f) else decide (side < 0)) (h1 : ¬ side = 0) (h2 : ¬ side < 0) : Value.ref C = Value.ref (if q = true then B else C) := by
  subst hq; simp [h1, h2]
set_option maxRecDepth 100000 in
set_option maxHeartbeats 8000000 in
theorem near_c (w : World) (mean : ExcName → Option Value) (mg mb : Str → Option Value) (a b c d e f : Int) (ta tb tc td te tf : Tok) (na nb nc : Nat) (A₁ B₁ C₁ : Addr) (q : Bool) (hg : nearF (a, b) (c, d) (e, f) = some q) (news : List (Addr × Obj)) (hA : (A₁, o2 a b ta tb na) ∈ news) (hB : (B₁, o2 c d tc td nb) ∈ news) (hC : (C₁, o2 e f te tf nc) ∈ news) :
    CallC w mean mg mb 5 118 [.ref A₁, .ref B₁, .ref C₁] news (fun v nx => nx = news ∧ v = .ref (if q = true then B₁ else C₁)) := by
  intro dp un gd cn cs fa ccd cl outer A₀ base h₀ L m s Q E B F X N T hk hd hu hret
  obtain ⟨d1, d2, e1, e2, side, hg1, hg2, hg3, hq⟩ := nearF_step hg
  refine wpAny_call ?_
  k_dflt ktr_enter
  k_with_none
  k_steps
  · rename News _ _ _ _ => N1
    exact hret _ _ _ _ (by assumption) (fun p hp => N1 p (by repeat (first | exact hp | refine List.Mem.tail _ ?_))) ⟨rfl, near1 hq (by assumption) (by assumption)⟩
  · rename News _ _ _ _ => N1
    exact hret _ _ _ _ (by assumption) (fun p hp => N1 p (by repeat (first | exact hp | refine List.Mem.tail _ ?_))) ⟨rfl, near2 hq (by assumption) (by assumption)⟩
  · rename News _ _ _ _ => N1
    exact hret _ _ _ _ (by assumption) (fun p hp => N1 p (by repeat (first | exact hp | refine List.Mem.tail _ ?_))) ⟨rfl, near3 hq (by assumption) (by assumption)⟩
  · rename News _ _ _ _ => N1
    exact hret _ _ _ _ (by assumption) (fun p hp => N1 p (by repeat (first | exact hp | refine List.Mem.tail _ ?_))) ⟨rfl, near4 hq (by assumption) (by assumption)⟩
local macro_rules | `(tactic| walk_at "call ref") => `(tactic| (k_here; (with_reducible show wpAny _ _ (PySem.call (Value.ref 118) _) _ _ _); (k_dflt (refine' CallC.use ?k1 ?k2 ?k3 ?k4 ?k5 ?kK (near_c _ _ _ _ _ _ _ _ _ _ _ _ _ _ _ _ _ _ _ _ _ _ _ ?kg _ ?kA ?kB ?kC) ?kd ?ku ?_)); (case k1 => k_asm); (case k2 => k_asm); (case k3 => k_asm); (case k4 => k_asm); (case k5 => k_asm); (case kK => k_dflt (first | exact rfl | assumption)); (case kA => k_mem); (case kB => k_mem); (case kC => k_mem); (case kg => first | assumption | (dsimp only; assumption) | k_extra "kg"); (case kd => first | exact Nat.le_of_ble_eq_true rfl | ktr_room); (case ku => first | exact Nat.le_of_ble_eq_true rfl | ktr_units); (rintro v nx h' tk' F' N' ⟨hn, hv⟩); subst hn; subst hv; (try k_fold)))
theorem freshBest : True := by
  w_top off
  k_with_none
  exact trivial
theorem at_list {p : Prop} {h₀ h : Heap} {L F : Addr} {vs : List Value} {nn : Nat} {rest : List (Addr × Obj)} (N : News h₀ L h ((F, PySem.W.listOf vs.toArray nn) :: rest)) (k : ∀ F' vs' nn', F' = F → vs' = vs → nn' = nn → p) : p := have _ := N; k F vs nn rfl rfl rfl
theorem ints_at {vs : List Value} {ws : List Int} {i : Nat} {v : Value} (h : IntsAre vs ws) (hv : vs[i]? = some v) : ∃ n t, v = .int n t ∧ ws.drop i = n :: ws.drop (i + 1) := by
  induction h generalizing i with
  | nil => simp at hv
  | cons n t _ ih =>
    cases i with
    | zero => simp at hv; exact ⟨n, t, hv.symm, rfl⟩
    | succ i =>
      rw [List.getElem?_cons_succ] at hv
      obtain ⟨n', t', e1, e2⟩ := ih hv
      exact ⟨n', t', e1, by simpa using e2⟩
/-- what the code behind the loop wants of the state -/
def After (a b most a1 b1 a2 b2 : Int) (out : P2) : Prop :=
  a2 = a2 ∧ b2 ≠ 0 ∧ (-1048576 < most ∧ most < 1048576) ∧ (-1048576 < a1 ∧ a1 < 1048576) ∧ (-1048576 < b1 ∧ b1 < 1048576) ∧ (-1048576 < a2 ∧ a2 < 1048576) ∧ (-1048576 < b2 ∧ b2 < 1048576) ∧
  (-1048576 < (most - b1).fdiv b2 ∧ (most - b1).fdiv b2 < 1048576) ∧
  ∃ q, (b1 + (most - b1).fdiv b2 * b2 > 0 → nearF (a, b) (a2, b2) (a1 + (most - b1).fdiv b2 * a2, b1 + (most - b1).fdiv b2 * b2) = some q ∧ out = if q = true then (a2, b2) else (a1 + (most - b1).fdiv b2 * a2, b1 + (most - b1).fdiv b2 * b2)) ∧
    (¬ b1 + (most - b1).fdiv b2 * b2 > 0 → out = (a2, b2))
theorem bestL_step {most n a1 b1 a2 b2 : Int} {rest : List Int} {r : P2 × P2} (h : bestL most (n :: rest) (a1, b1) (a2, b2) = some r) :
    (-1048576 < n ∧ n < 1048576) ∧ (n * b2 + b1 > most → r = ((a1, b1), (a2, b2))) ∧ (¬ n * b2 + b1 > most → bestL most rest (a2, b2) (n * a2 + a1, n * b2 + b1) = some r) := by
  simp only [bestL] at h
  split at h
  · rename_i hb
    simp only [Bool.and_eq_true, bd_iff] at hb
    refine ⟨hb.1, fun e => ?_, fun e => ?_⟩
    · rw [if_pos e] at h; exact (Option.some.inj h).symm
    · rw [if_neg e] at h; exact h
  · cases h
theorem bestF_step {a b most : Int} {out : P2} (h : bestF (a, b) most = some out) : ¬ most < 1 ∧ (b ≤ most → out = (a, b)) ∧
    (¬ b ≤ most → ∃ ws, frL 64 (a, b) [] = some ws ∧ ∃ r, bestL most ws (0, 1) (1, 0) = some r ∧ ∀ a1 b1 a2 b2, r = ((a1, b1), (a2, b2)) → After a b most a1 b1 a2 b2 out) := by
  unfold bestF at h
  split at h
  · cases h
  · rename_i h1
    refine ⟨h1, fun e => ?_, fun e => ?_⟩
    · rw [if_pos e] at h; exact (Option.some.inj h).symm
    · rw [if_neg e] at h
      cases e1 : frL 64 (a, b) [] with
      | none => rw [e1] at h; cases h
      | some ws =>
        rw [e1] at h
        simp only [Option.bind_some] at h
        refine ⟨ws, rfl, ?_⟩
        cases e2 : bestL most ws (0, 1) (1, 0) with
        | none => rw [e2] at h; cases h
        | some r =>
          rw [e2] at h
          refine ⟨r, rfl, ?_⟩
          rintro a1 b1 a2 b2 rfl
          simp only [Option.bind_some] at h
          split at h
          · cases h
          · rename_i hb
            split at h
            · rename_i hbd
              simp only [Bool.and_eq_true, bd_iff, b4_iff] at hbd
              split at h
              · rename_i hm
                rw [bd_iff] at hm
                refine ⟨rfl, hb, hbd.1, hbd.2.1, hbd.2.2.1, hbd.2.2.2.1, hbd.2.2.2.2, hm, ?_⟩
                by_cases hg : b1 + (most - b1).fdiv b2 * b2 > 0
                · rw [if_pos hg] at h
                  cases e3 : nearF (a, b) (a2, b2) (a1 + (most - b1).fdiv b2 * a2, b1 + (most - b1).fdiv b2 * b2) with
                  | none => rw [e3] at h; cases h
                  | some q =>
                    rw [e3] at h
                    exact ⟨q, fun _ => ⟨rfl, (Option.some.inj h).symm⟩, fun k => absurd hg k⟩
                · rw [if_neg hg] at h
                  exact ⟨true, fun k => absurd k hg, fun _ => (Option.some.inj h).symm⟩
              · cases h
            · cases h
structure BS where
  D1 : Addr
  a1 : Int
  b1 : Int
  t1 : Tok
  u1 : Tok
  n1 : Nat
  D2 : Addr
  a2 : Int
  b2 : Int
  t2 : Tok
  u2 : Tok
  n2 : Nat
set_option maxRecDepth 100000 in
set_option maxHeartbeats 8000000 in
theorem best_c (w : World) (mean : ExcName → Option Value) (mg mb : Str → Option Value) (a b most : Int) (ta tb tm : Tok) (na : Nat) (A₁ : Addr) (out : P2) (hg : bestF (a, b) most = some out) (news : List (Addr × Obj)) (hA : (A₁, o2 a b ta tb na) ∈ news) :
    CallC w mean mg mb 6 125 [.ref A₁, .int most tm] news (fun v nx => ∃ D t u n, v = .ref D ∧ nx = (D, o2 out.1 out.2 t u n) :: news) := by
  intro dp un gd cn cs fa ccd cl outer A₀ base h₀ L m s Q E B F X N T hk hd hu hret
  obtain ⟨hm1, hs1, hs2⟩ := bestF_step hg
  by_cases hbm : b ≤ most
  · refine wpAny_call ?_
    k_dflt ktr_enter
    k_with_none
    k_steps
    rename News _ _ _ _ => N1
    have e := hs1 hbm
    subst e
    exact hret _ _ _ _ (by assumption) (List.forall_mem_cons.mpr ⟨N1 _ (by k_mem), N1⟩) ⟨_, _, _, _, rfl, rfl⟩
  · obtain ⟨ws, hw, r, hr, hr2⟩ := hs2 hbm
    refine wpAny_call ?_
    k_dflt ktr_enter
    k_with_none
    k_with "pyIter ref" => refine hold ?_
    k_steps
    unfold Hold
    rename News _ _ _ _ => N1
    refine at_list N1 ?_
    intro F0 vs nn eq1 eq2 eq3
    subst eq1 eq2 eq3
    rename IntsAre _ _ => hi
    rename Fr _ _ _ _ => F1
    refine' my_list (σ := BS) (nn := nn) (vs := vs) (fun c => (F0, PySem.W.listOf vs.toArray nn) :: (c.D1, o2 c.a1 c.b1 c.t1 c.u1 c.n1) :: (c.D2, o2 c.a2 c.b2 c.t2 c.u2 c.n2) :: news) (fun c => [(Str.ofString "before", .ref c.D1), (Str.ofString "here", .ref c.D2)]) (fun _ => True) [Str.ofString "later"] (fun i c => bestL most (ws.drop i) (c.a1, c.b1) (c.a2, c.b2) = some r) ⟨_, 0, 1, _, _, _, _, 1, 0, _, _, _⟩ ?hh F1 N1 (fun _ => .head _) ?kn True.intro ?kk ?kp ?turn ?done
    case hh => rfl
    case kk => (refine List.forall_mem_cons.mpr ⟨?hk1, List.forall_mem_cons.mpr ⟨?hk2, List.forall_mem_nil _⟩⟩; (case hk1 => with_unfolding_all rfl); (case hk2 => with_unfolding_all rfl))
    case kn => exact List.forall_mem_cons.mpr ⟨by k_mem, List.forall_mem_cons.mpr ⟨by k_mem, List.forall_mem_cons.mpr ⟨by k_mem, fun p hp => (by repeat (first | exact hp | exact List.mem_append_left _ hp | refine List.Mem.tail _ ?_))⟩⟩⟩
    case kp => exact hr
    case turn =>
      rintro i ⟨D1, a1, b1, t1, u1, n1, D2, a2, b2, t2, u2, n2⟩ v u h tk own hv hown - kInv kFr kNews
      dsimp only [FrX, kstB] at kFr
      dsimp only [o2, PySem.W.listOf] at kInv kNews hown
      simp only [List.cons_append] at kNews
      have hA2 : (A₁, o2 a b ta tb na) ∈ news ++ own := List.mem_append_left _ hA
      obtain ⟨n, t, rfl, hdrop⟩ := ints_at hi hv
      rw [hdrop] at kInv
      obtain ⟨hb, hbr, hgo⟩ := bestL_step kInv
      clear N1 F1
      k_with_none
      k_with "mypost" => refine hold ?_
      try k_fold
      k_steps
      · unfold Hold
        have eR := hbr (by assumption)
        obtain ⟨-, hb0, hm, ha1, hb1, ha2, hb2, hmm, q, hq1, hq2⟩ := hr2 a1 b1 a2 b2 eR
        k_with_none
        k_with "kg" => exact (hq1 (by assumption)).1
        dsimp only
        try k_fold
        show InvPostG _ _ _ _ _ _ _ _
        dsimp only [InvPostG]
        k_steps
        · rename News _ _ _ _ => N1
          have e := (hq1 (by assumption)).2
          cases q with
          | true =>
            simp only [if_true] at e ⊢
            subst e
            exact hret _ _ _ _ (by assumption) (List.forall_mem_cons.mpr ⟨N1 _ (by k_mem), fun p hp => N1 p (by repeat (first | exact hp | exact List.mem_append_left _ hp | refine List.Mem.tail _ ?_))⟩) ⟨_, _, _, _, rfl, rfl⟩
          | false =>
            simp only [Bool.false_eq_true, if_false] at e ⊢
            subst e
            exact hret _ _ _ _ (by assumption) (List.forall_mem_cons.mpr ⟨N1 _ (by k_mem), fun p hp => N1 p (by repeat (first | exact hp | exact List.mem_append_left _ hp | refine List.Mem.tail _ ?_))⟩) ⟨_, _, _, _, rfl, rfl⟩
        · rename News _ _ _ _ => N1
          have e := hq2 (by assumption)
          subst e
          exact hret _ _ _ _ (by assumption) (List.forall_mem_cons.mpr ⟨N1 _ (by k_mem), fun p hp => N1 p (by repeat (first | exact hp | exact List.mem_append_left _ hp | refine List.Mem.tail _ ?_))⟩) ⟨_, _, _, _, rfl, rfl⟩
      · unfold Hold
        dsimp only [InvPostG]
        rename News _ _ _ _ => N1
        refine' js_end ⟨_, a2, b2, _, _, _, _, n * a2 + a1, n * b2 + b1, _, _, _⟩ ?F N1 ?ho ?hn ?hk ?hr ?ha True.intro (hgo (by assumption))
        case F => assumption
        case hk => (refine List.forall_mem_cons.mpr ⟨?hk1, List.forall_mem_cons.mpr ⟨?hk2, List.forall_mem_nil _⟩⟩; (case hk1 => with_unfolding_all rfl); (case hk2 => with_unfolding_all rfl))
        case hn => exact List.forall_mem_cons.mpr ⟨by k_mem, List.forall_mem_cons.mpr ⟨by k_mem, List.forall_mem_cons.mpr ⟨by k_mem, fun p hp => by repeat (first | exact List.mem_append_left _ hp | refine List.Mem.tail _ ?_)⟩⟩⟩
        case ho => exact fun p hp => by repeat (first | exact List.mem_append_right _ hp | refine List.Mem.tail _ ?_)
        case hr => kst_same
        case ha =>
          rename _ ∧ _ ∧ _ ∧ AllLt _ (news ++ own) => l1
          exact List.forall_mem_cons.mpr ⟨hown _ (.head _), List.forall_mem_cons.mpr ⟨hown (D2, _) (.tail _ (.tail _ (.head _))), List.forall_mem_cons.mpr ⟨fun p hp => Nat.ne_of_lt (ktn_ltOf l1.2.2.2 p (List.mem_append_right _ hp)), fun q hq => hown q (.tail _ (.tail _ (.tail _ hq)))⟩⟩⟩
    case done =>
      rintro ⟨D1, a1, b1, t1, u1, n1, D2, a2, b2, t2, u2, n2⟩ u h tk - kInv kFr kNews
      dsimp only [FrX, kstB] at kFr
      dsimp only [o2, PySem.W.listOf] at kInv kNews
      rw [List.drop_of_length_le (Nat.le_of_eq hi.length.symm)] at kInv
      obtain ⟨-, hb0, hm, ha1, hb1, ha2, hb2, hmm, q, hq1, hq2⟩ := hr2 a1 b1 a2 b2 (Option.some.inj kInv).symm
      clear N1 F1
      k_with_none
      k_with "kg" => exact (hq1 (by assumption)).1
      try k_fold
      k_steps
      · rename News _ _ _ _ => N1
        have e := (hq1 (by assumption)).2
        cases q with
        | true =>
          simp only [if_true] at e ⊢
          subst e
          exact hret _ _ _ _ (by assumption) (List.forall_mem_cons.mpr ⟨N1 _ (by k_mem), fun p hp => N1 p (by repeat (first | exact hp | exact List.mem_append_left _ hp | refine List.Mem.tail _ ?_))⟩) ⟨_, _, _, _, rfl, rfl⟩
        | false =>
          simp only [Bool.false_eq_true, if_false] at e ⊢
          subst e
          exact hret _ _ _ _ (by assumption) (List.forall_mem_cons.mpr ⟨N1 _ (by k_mem), fun p hp => N1 p (by repeat (first | exact hp | exact List.mem_append_left _ hp | refine List.Mem.tail _ ?_))⟩) ⟨_, _, _, _, rfl, rfl⟩
      · rename News _ _ _ _ => N1
        have e := hq2 (by assumption)
        subst e
        exact hret _ _ _ _ (by assumption) (List.forall_mem_cons.mpr ⟨N1 _ (by k_mem), fun p hp => N1 p (by repeat (first | exact hp | exact List.mem_append_left _ hp | refine List.Mem.tail _ ?_))⟩) ⟨_, _, _, _, rfl, rfl⟩
theorem freshFar : True := by
  w_top off
  k_with_none
  exact trivial
def p2d (x : P2) : Dat := .tuple [.int x.1, .int x.2]
theorem datIn_o2 {L : List (Addr × Obj)} {D : Addr} {a b : Int} {t u : Tok} {n : Nat} (h : (D, o2 a b t u n) ∈ L) : DatIn L (.ref D) (p2d (a, b)) :=
  .tuple (vs := [.int a t, .int b u]) (n := n) h (.cons (.int a t) (.cons (.int b u) .nil))
theorem dat_push {L L' : List (Addr × Obj)} {vs : List Value} {row : List P2} (h : DatAll L vs (row.map p2d)) (hs : ∀ p ∈ L, p ∈ L') {D : Addr} {a b : Int} {t u : Tok} {n : Nat} (hm : (D, o2 a b t u n) ∈ L') : DatAll L' (vs ++ [.ref D]) ((row ++ [(a, b)]).map p2d) := by
  rw [List.map_append]
  exact (h.mono hs).append (.cons (datIn_o2 hm) .nil)
theorem at_three {p : Prop} {h₀ h : Heap} {L T F : Addr} {q : Addr × Obj} {o o' : Obj} {rest : List (Addr × Obj)} (N : News h₀ L h (q :: (T, o) :: (F, o') :: rest)) (k : ∀ T' F', T' = T → F' = F → p) : p := have _ := N; k T F rfl rfl
theorem farL_step {n : Int} {k : Nat} {a1 b1 a2 b2 : Int} {found : List P2} {times : List Int} {r : List P2 × List Int} (h : farL n k (a1, b1) (a2, b2) found times = some r) : ∃ k', k = k' + 1 ∧
    (a2 ≤ b2 → (b2 ≠ 0 ∧ (-1048576 < n ∧ n < 1048576) ∧ (-1048576 < a1 ∧ a1 < 1048576) ∧ (-1048576 < b1 ∧ b1 < 1048576) ∧ (-1048576 < a2 ∧ a2 < 1048576) ∧ (-1048576 < b2 ∧ b2 < 1048576) ∧ (-1048576 < (n + b1).fdiv b2 ∧ (n + b1).fdiv b2 < 1048576)) ∧
      farL n k' (a2, b2) ((n + b1).fdiv b2 * a2 - a1, (n + b1).fdiv b2 * b2 - b1) (found ++ [(a2, b2)]) (times ++ [(n + b1).fdiv b2]) = some r) ∧
    (¬ a2 ≤ b2 → r = (found, times)) := by
  cases k with
  | zero => cases h
  | succ k =>
    simp only [farL] at h
    refine ⟨k, rfl, fun e => ?_, fun e => ?_⟩
    · rw [if_pos e] at h
      split at h
      · cases h
      · rename_i hb
        split at h
        · rename_i hc
          simp only [Bool.and_eq_true, bd_iff, b4_iff] at hc
          exact ⟨⟨hb, hc.1.1, hc.1.2.1, hc.1.2.2.1, hc.1.2.2.2.1, hc.1.2.2.2.2, hc.2⟩, h⟩
        · cases h
    · rw [if_neg e] at h; exact (Option.some.inj h).symm
structure FS where
  k : Nat
  D1 : Addr
  a1 : Int
  b1 : Int
  t1 : Tok
  u1 : Tok
  n1 : Nat
  D2 : Addr
  a2 : Int
  b2 : Int
  t2 : Tok
  u2 : Tok
  n2 : Nat
  vs : List Value
  row : List P2
  cf : Nat
  us : List Value
  ts : List Int
  ct : Nat
  tl : List (Addr × Obj)
set_option maxRecDepth 100000 in
set_option maxHeartbeats 8000000 in
theorem far_c (w : World) (mean : ExcName → Option Value) (mg mb : Str → Option Value) (n : Int) (tn : Tok) (r : List P2 × List Int) (hg : farF n = some r) (news : List (Addr × Obj)) :
    CallC w mean mg mb 1 139 [.int n tn] news (fun v nx => ∃ D F T vs cf us ct tl c, v = .ref D ∧ nx = (D, ({ cls := .type "tuple", data := .seq #[.ref F, .ref T] c } : Obj)) :: (F, PySem.W.listOf vs.toArray cf) :: (T, PySem.W.listOf us.toArray ct) :: (news ++ tl) ∧ DatAll tl vs (r.1.map p2d) ∧ IntsAre us r.2) := by
  intro dp un gd cn cs fa ccd cl outer A₀ base h₀ L m s Q E B F X N T hk hd hu hret
  unfold farF at hg
  refine wpAny_call ?_
  k_dflt ktr_enter
  k_with_none
  k_with "exec While Compare cons nil" => refine hold ?_
  k_steps
  unfold Hold
  rename News _ _ _ _ => N1
  refine at_three N1 ?_
  intro T0 F0 eq1 eq2
  subst eq1 eq2
  rename _ ∧ _ ∧ _ ∧ AllLt F0 news => lF
  rename _ ∧ _ ∧ _ ∧ _ ∧ AllLt T0 news => lT
  have hFT : F0 ≠ T0 := Nat.ne_of_lt lT.1
  rename Fr _ _ _ _ => F1
  have cFT : ∀ {D : Addr} {o : Obj}, (D, o) ∈ _ → o.cls = .type "tuple" → D ≠ F0 ∧ D ≠ T0 := fun {D o} hm hc => ⟨ne_of_cls2 N1 hm (.tail _ (.tail _ (.head _))) (by rw [hc]; intro e; exact absurd (Value.type.inj e) (by decide)), ne_of_cls2 N1 hm (.tail _ (.head _)) (by rw [hc]; intro e; exact absurd (Value.type.inj e) (by decide))⟩
  refine' ksw_while (σ := FS) (fun c => (F0, PySem.W.listOf c.vs.toArray c.cf) :: (T0, PySem.W.listOf c.us.toArray c.ct) :: (c.D1, o2 c.a1 c.b1 c.t1 c.u1 c.n1) :: (c.D2, o2 c.a2 c.b2 c.t2 c.u2 c.n2) :: (c.tl ++ news)) (fun c => [(Str.ofString "one", .ref c.D1), (Str.ofString "other", .ref c.D2)])
    (fun c => DatAll c.tl c.vs (c.row.map p2d) ∧ IntsAre c.us c.ts ∧ c.D1 ≠ F0 ∧ c.D1 ≠ T0 ∧ c.D2 ≠ F0 ∧ c.D2 ≠ T0 ∧ (∀ p ∈ c.tl ++ news, p.1 ≠ F0) ∧ (∀ p ∈ c.tl ++ news, p.1 ≠ T0)) [Str.ofString "many"]
    (fun c => farL n c.k (c.a1, c.b1) (c.a2, c.b2) c.row c.ts = some r ∧ c.row.length + c.k ≤ 65 ∧ c.ts.length + c.k ≤ 64) (fun c => c.k) ⟨64, _, 0, 1, _, _, 0, _, 1, n, _, _, 0, [.ref _], [(0, 1)], _, [], [], _, [(_, o2 0 1 _ _ 0)]⟩ F1 ?kn ?kf ?kk ?kp ?turn ?hE
  case hE => first | passes_own | with_unfolding_all passes_own
  case kk => (refine List.forall_mem_cons.mpr ⟨?hk1, List.forall_mem_cons.mpr ⟨?hk2, List.forall_mem_nil _⟩⟩; (case hk1 => with_unfolding_all rfl); (case hk2 => with_unfolding_all rfl))
  case kn => exact List.forall_mem_cons.mpr ⟨N1 _ (by k_mem), List.forall_mem_cons.mpr ⟨N1 _ (by k_mem), List.forall_mem_cons.mpr ⟨N1 _ (by k_mem), List.forall_mem_cons.mpr ⟨N1 _ (by k_mem), List.forall_mem_cons.mpr ⟨N1 _ (by k_mem), fun p hp => N1 p (by repeat (first | exact hp | refine List.Mem.tail _ ?_))⟩⟩⟩⟩⟩
  case kf =>
    refine ⟨.cons (datIn_o2 (by exact List.Mem.head _)) .nil, .nil, (cFT (by k_mem) rfl).1, (cFT (by k_mem) rfl).2, (cFT (by k_mem) rfl).1, (cFT (by k_mem) rfl).2, ?_, ?_⟩
    · exact List.forall_mem_cons.mpr ⟨(cFT (by k_mem) rfl).1, fun p hp => Nat.ne_of_lt (ktn_ltOf lF.2.2.2 p hp)⟩
    · exact List.forall_mem_cons.mpr ⟨(cFT (by k_mem) rfl).2, fun p hp => Nat.ne_of_lt (ktn_ltOf lT.2.2.2.2 p hp)⟩
  case kp => exact ⟨hg, Nat.le_refl _, Nat.le_refl _⟩
  rintro ⟨k, D1, a1, b1, t1, u1, n1, D2, a2, b2, t2, u2, n2, vs, row, cf, us, ts, ct, tl⟩ kU kH kTk ⟨hd1, hi, hn1, hn2, hn3, hn4, hn5, hn6⟩ ⟨hf, hl1, hl2⟩ kFr kNews
  dsimp only [o2, PySem.W.listOf] at hd1 hi hn1 hn2 hn3 hn4 hn5 hn6 hf hl1 hl2 kFr kNews ⊢
  dsimp only [kstB] at kFr
  obtain ⟨k', rfl, hgo, hend⟩ := farL_step hf
  have hv1 := hd1.length
  rw [List.length_map] at hv1
  have hv2 := hi.length
  have hv3 : vs.length ≤ 65 := by omega
  have hv4 : us.length ≤ 64 := by omega
  clear F1 N1 cFT
  try k_fold
  k_steps
  · rename News _ _ _ _ => N1
    simp only [List.push_toArray] at N1
    have e := hgo (by assumption)
    refine' ksw_end ⟨k', D2, a2, b2, t2, u2, n2, _, (n + b1).fdiv b2 * a2 - a1, (n + b1).fdiv b2 * b2 - b1, _, _, _, vs ++ [.ref D2], row ++ [(a2, b2)], _, us ++ [.int ((n + b1).fdiv b2) _], ts ++ [(n + b1).fdiv b2], _, (D2, o2 a2 b2 t2 u2 n2) :: tl⟩ ?F N1 ?hn ⟨dat_push hd1 (fun p hp => .tail _ hp) (.head _), ?hi, hn3, hn4, ?h1, ?h2, List.forall_mem_cons.mpr ⟨hn3, hn5⟩, List.forall_mem_cons.mpr ⟨hn4, hn6⟩⟩ ?hk ?hr ⟨e.2, ?hl1, ?hl2⟩ ?hm
    case F => assumption
    case hk => (refine List.forall_mem_cons.mpr ⟨?hk1, List.forall_mem_cons.mpr ⟨?hk2, List.forall_mem_nil _⟩⟩; (case hk1 => with_unfolding_all rfl); (case hk2 => with_unfolding_all rfl))
    case hn =>
     (exact List.forall_mem_cons.mpr ⟨by k_mem, List.forall_mem_cons.mpr ⟨by k_mem, List.forall_mem_cons.mpr ⟨by k_mem, List.forall_mem_cons.mpr ⟨by k_mem, List.forall_mem_cons.mpr ⟨by k_mem, fun p hp => (by repeat (first | exact hp | refine List.Mem.tail _ ?_))⟩⟩⟩⟩⟩)
    case hi => exact ints_push hi _ _
    case h1 => exact ne_of_cls2 N1 (by k_mem) (by k_mem) (by dsimp only; intro e; exact absurd (Value.type.inj e) (by decide))
    case h2 => exact ne_of_cls2 N1 (by k_mem) (by k_mem) (by dsimp only; intro e; exact absurd (Value.type.inj e) (by decide))
    case hr => ksw_same
    case hl1 => ((try dsimp only); rw [List.length_append, List.length_singleton]; omega)
    case hl2 => ((try dsimp only); rw [List.length_append, List.length_singleton]; omega)
    case hm => exact Nat.lt_succ_self _
  · rename News _ _ _ _ => N1
    have e := hend (by assumption)
    subst e
    refine hret _ _ _ _ (by assumption) ?_ ⟨_, F0, T0, vs, cf, us, ct, tl, 0, rfl, rfl, hd1, hi⟩
    exact List.forall_mem_cons.mpr ⟨N1 _ (by k_mem), List.forall_mem_cons.mpr ⟨N1 _ (by k_mem), List.forall_mem_cons.mpr ⟨N1 _ (by k_mem), fun p hp => N1 p (by
      have hp := (List.mem_append.mp hp).elim (List.mem_append_right tl) (List.mem_append_left news)
      repeat (first | exact hp | refine List.Mem.tail _ ?_))⟩⟩⟩
local macro_rules | `(tactic| walk_at "call ref") => `(tactic| (k_here; (with_reducible show wpAny _ _ (PySem.call (Value.ref 139) _) _ _ _); (k_dflt (refine' CallC.use ?k1 ?k2 ?k3 ?k4 ?k5 ?kK (far_c _ _ _ _ _ _ _ ?kg _) ?kd ?ku ?_)); (case k1 => k_asm); (case k2 => k_asm); (case k3 => k_asm); (case k4 => k_asm); (case k5 => k_asm); (case kK => k_dflt (first | exact rfl | assumption)); (case kg => first | assumption | (dsimp only; assumption) | k_extra "kg"); (case kd => first | exact Nat.le_of_ble_eq_true rfl | ktr_room); (case ku => first | exact Nat.le_of_ble_eq_true rfl | ktr_units); (rintro v nx h' tk' F' N' ⟨D', F0, T0, vs', cf', us', ct', tl', c', hv, hn, hd', hi'⟩); subst hn; subst hv; (try dsimp only at hd' hi'); (try simp only [List.cons_append, List.nil_append] at N'); (try k_fold)))
theorem freshDraw : True := by
  w_top off
  k_with_none
  exact trivial
theorem news_tail {h₀ h : Heap} {L : Addr} {q : Addr × Obj} {l : List (Addr × Obj)} (N : News h₀ L h (q :: l)) : News h₀ L h l := fun p hp => N p (.tail _ hp)
set_option maxRecDepth 100000 in
set_option maxHeartbeats 8000000 in
theorem draw0_c (w : World) (mean : ExcName → Option Value) (mg mb : Str → Option Value) (P S : Addr) (vs : List Value) (ns : List Int) (hi : IntsAre vs ns) (hle : ns.length ≤ 3) (c c' : Nat) (ts tm : Tok) (many : Int) (hm : 0 < many) (hm2 : many < 1048576) (rest : List (Addr × Obj)) (hSP : S ≠ P) (hrest : ∀ p ∈ rest, p.1 ≠ P) :
    CallC w mean mg mb 1 132 [.ref P, .int many tm] ((P, PySem.W.listOf #[.ref S, .int 0 ts] c) :: (S, PySem.W.listOf vs.toArray c') :: rest) (fun v nx => ∃ x t t' c2, v = .int x t ∧ 0 ≤ x ∧ x < many ∧ nx = (P, PySem.W.listOf #[.ref S, .int 1 t'] c2) :: (S, PySem.W.listOf vs.toArray c') :: rest) := by
  intro dp un gd cn cs fa ccd cl outer A₀ base h₀ L m s Q E B F X N T hk hd hu hret
  have hlen := hi.length
  refine wpAny_call ?_
  k_dflt ktr_enter
  k_with_none
  k_steps
  · rename News _ _ _ _ => N1
    exact hret _ _ _ _ (by assumption) N1 ⟨_, _, _, _, rfl, Int.fmod_nonneg_of_pos _ hm, Int.fmod_lt_of_pos _ hm, rfl⟩
  · rename News _ _ _ _ => N1
    exact hret _ _ _ _ (by assumption) (news_tail N1) ⟨_, _, _, _, rfl, Int.fmod_nonneg_of_pos _ hm, Int.fmod_lt_of_pos _ hm, rfl⟩
set_option maxRecDepth 100000 in
set_option maxHeartbeats 8000000 in
theorem draw1_c (w : World) (mean : ExcName → Option Value) (mg mb : Str → Option Value) (P S : Addr) (vs : List Value) (ns : List Int) (hi : IntsAre vs ns) (hle : ns.length ≤ 3) (c c' : Nat) (ts tm : Tok) (many : Int) (hm : 0 < many) (hm2 : many < 1048576) (rest : List (Addr × Obj)) (hSP : S ≠ P) (hrest : ∀ p ∈ rest, p.1 ≠ P) :
    CallC w mean mg mb 1 132 [.ref P, .int many tm] ((P, PySem.W.listOf #[.ref S, .int 1 ts] c) :: (S, PySem.W.listOf vs.toArray c') :: rest) (fun v nx => ∃ x t t' c2, v = .int x t ∧ 0 ≤ x ∧ x < many ∧ nx = (P, PySem.W.listOf #[.ref S, .int 2 t'] c2) :: (S, PySem.W.listOf vs.toArray c') :: rest) := by
  intro dp un gd cn cs fa ccd cl outer A₀ base h₀ L m s Q E B F X N T hk hd hu hret
  have hlen := hi.length
  refine wpAny_call ?_
  k_dflt ktr_enter
  k_with_none
  k_steps
  · rename News _ _ _ _ => N1
    exact hret _ _ _ _ (by assumption) N1 ⟨_, _, _, _, rfl, Int.fmod_nonneg_of_pos _ hm, Int.fmod_lt_of_pos _ hm, rfl⟩
  · rename News _ _ _ _ => N1
    exact hret _ _ _ _ (by assumption) (news_tail N1) ⟨_, _, _, _, rfl, Int.fmod_nonneg_of_pos _ hm, Int.fmod_lt_of_pos _ hm, rfl⟩
set_option maxRecDepth 100000 in
set_option maxHeartbeats 8000000 in
theorem draw2_c (w : World) (mean : ExcName → Option Value) (mg mb : Str → Option Value) (P S : Addr) (vs : List Value) (ns : List Int) (hi : IntsAre vs ns) (hle : ns.length ≤ 3) (c c' : Nat) (ts tm : Tok) (many : Int) (hm : 0 < many) (hm2 : many < 1048576) (rest : List (Addr × Obj)) (hSP : S ≠ P) (hrest : ∀ p ∈ rest, p.1 ≠ P) :
    CallC w mean mg mb 1 132 [.ref P, .int many tm] ((P, PySem.W.listOf #[.ref S, .int 2 ts] c) :: (S, PySem.W.listOf vs.toArray c') :: rest) (fun v nx => ∃ x t t' c2, v = .int x t ∧ 0 ≤ x ∧ x < many ∧ nx = (P, PySem.W.listOf #[.ref S, .int 3 t'] c2) :: (S, PySem.W.listOf vs.toArray c') :: rest) := by
  intro dp un gd cn cs fa ccd cl outer A₀ base h₀ L m s Q E B F X N T hk hd hu hret
  have hlen := hi.length
  refine wpAny_call ?_
  k_dflt ktr_enter
  k_with_none
  k_steps
  · rename News _ _ _ _ => N1
    exact hret _ _ _ _ (by assumption) N1 ⟨_, _, _, _, rfl, Int.fmod_nonneg_of_pos _ hm, Int.fmod_lt_of_pos _ hm, rfl⟩
  · rename News _ _ _ _ => N1
    exact hret _ _ _ _ (by assumption) (news_tail N1) ⟨_, _, _, _, rfl, Int.fmod_nonneg_of_pos _ hm, Int.fmod_lt_of_pos _ hm, rfl⟩
theorem freshLbest : True := by
  w_top off
  k_with_none
  exact trivial
def MyEl (news : List (Addr × Obj)) (R : List Value → Prop) (ys : List Value) (y : Value) (news' : List (Addr × Obj)) : Prop := news' = news ∧ R (ys ++ [y])
def MyNo (news : List (Addr × Obj)) (R : List Value → Prop) (ys : List Value) (news' : List (Addr × Obj)) : Prop := news' = news ∧ R ys
section
variable {prog : Program} {w : World} {A : Around} {h₀ : Heap} {L : Addr} {m : Str → Option Value} {env : Env} {ct elt : Expr} {x : Str} {scope : Scope} {cl : List (Str × Addr)} {s : Shared} {S : List (Addr × Obj) → Prop} {P : Nat → Value → Prop} {Fin : List Value → List (Addr × Obj) → Prop} {news : List (Addr × Obj)}
theorem my_restT {n : Nat} (R : Nat → List Value → Prop) (h0 : R 0 [])
    (turn : ∀ i v ys I oI C oC D m₂ h tk (E' : Value → Shared → Prop), i < n → P i v → R i ys → PyProof.Rows.LCg.NsObj oC m₂ → m₂ x = some v → Fr h₀ L h m → News h₀ L h ((I, oI) :: (C, oC) :: (D, PyProof.Rows.LCg.lst ys) :: news) → PyProof.Rows.LCg.Off3 I C D news → ((@Ne Nat I C) ∧ (@Ne Nat I D) ∧ (@Ne Nat C D)) →
      wpAny (model prog w) A (isTrue ct (compEnvC scope cl C env) (eval ct (compEnvC scope cl C env))) (fun b s' => if b = true then wpAny (model prog w) A (eval elt (compEnvC scope cl C env)) (PyProof.Rows.LCg.CompEnd h₀ L m { s with heap := h, toks := tk } I oI C oC D (PyProof.Rows.LCg.lst ys) S (MyEl news (R (i + 1)) ys)) E' s'
        else PyProof.Rows.LCg.CompEnd h₀ L m { s with heap := h, toks := tk } I oI C oC D (PyProof.Rows.LCg.lst ys) S (fun _ news' => MyNo news (R (i + 1)) ys news') Value.none s') E' { s with heap := h, toks := tk })
    (fin : ∀ ys, R n ys → Fin ys news) : PyProof.Rows.LCt.CompRestT prog w A h₀ L m env ct elt x scope cl s S P Fin n 0 [] news := by
  have key : ∀ (j i : Nat) (ys : List Value), i + j = n → R i ys → PyProof.Rows.LCt.CompRestT prog w A h₀ L m env ct elt x scope cl s S P Fin j i ys news := by
    intro j
    induction j with
    | zero =>
      intro i ys hi hy
      have e : i = n := by omega
      subst e
      exact PyProof.Rows.LCt.CompRestT.zero (fin ys hy)
    | succ j ih =>
      intro i ys hi hy
      refine PyProof.Rows.LCt.CompRestT.succ ?_
      intro v I oI C oC D m₂ h tk E' hv hC hx F N off ne
      refine wpAny_mono (turn i v ys I oI C oC D m₂ h tk E' (by omega) hv hy hC hx F N off ne) (fun b s₂ hq => ?_) fun _ _ e => e
      cases b with
      | true =>
        simp only [if_true] at hq ⊢
        refine wpAny_mono hq (fun y s₃ hr => ?_) fun _ _ e => e
        obtain ⟨h', tk', nw, e, F', N', off', hS, hn, hR⟩ := hr
        rw [hn] at N' off' hS
        exact ⟨h', tk', news, e, F', N', off', hS, ih (i + 1) _ (by omega) hR⟩
      | false =>
        simp only [Bool.false_eq_true, if_false] at hq ⊢
        obtain ⟨h', tk', nw, e, F', N', off', hS, hn, hR⟩ := hq
        rw [hn] at N' off' hS
        exact ⟨h', tk', news, e, F', N', off', hS, ih (i + 1) _ (by omega) hR⟩
  exact key n 0 [] (by omega) h0
end
theorem lbestF_step {row : List P2} {a b : Int} {out : P2} (h : lbestF row (a, b) = some out) : ((a, b) ∈ row → out = (a, b)) ∧
    (¬ (a, b) ∈ row → (∀ one ∈ row, (-1048576 < one.1 ∧ one.1 < 1048576) ∧ (-1048576 < one.2 ∧ one.2 < 1048576)) ∧ (-1048576 < a ∧ a < 1048576) ∧ (-1048576 < b ∧ b < 1048576) ∧
      ∃ k l1 l2 h1 h2, (row.filter fun one => one.1 * b < a * one.2).length = k ∧ k ≠ 0 ∧ row[k - 1]? = some (l1, l2) ∧ row[k]? = some (h1, h2) ∧
        ((a * l2 - l1 * b) * h2 = (h1 * b - a * h2) * l2 → out = if l2 < h2 then (l1, l2) else (h1, h2)) ∧
        (¬ (a * l2 - l1 * b) * h2 = (h1 * b - a * h2) * l2 → out = if (a * l2 - l1 * b) * h2 < (h1 * b - a * h2) * l2 then (l1, l2) else (h1, h2))) := by
  unfold lbestF at h
  refine ⟨fun e => ?_, fun e => ?_⟩
  · rw [if_pos e] at h; exact (Option.some.inj h).symm
  · rw [if_neg e] at h
    split at h
    · rename_i hall
      rw [List.all_eq_true] at hall
      simp only at h
      split at h
      · cases h
      · rename_i hk
        cases e1 : row[(row.filter fun one => one.1 * b < a * one.2).length - 1]? with
        | none => simp only [e1] at h; cases h
        | some low =>
          cases e2 : row[(row.filter fun one => one.1 * b < a * one.2).length]? with
          | none => simp only [e1, e2, Option.bind_some] at h; cases h
          | some high =>
            simp only [e1, e2, Option.bind_some] at h
            split at h
            · rename_i hbd
              simp only [Bool.and_eq_true, bd_iff] at hbd
              refine ⟨fun one ho => ?_, hbd.1, hbd.2, _, low.1, low.2, high.1, high.2, rfl, hk, e1, e2, fun q => ?_, fun q => ?_⟩
              · have := b4_iff.mp (hall one ho)
                exact ⟨this.1, this.2.1⟩
              · rw [if_pos q] at h; exact (Option.some.inj h).symm
              · rw [if_neg q] at h; exact (Option.some.inj h).symm
            · cases h
    · cases h
theorem row_at {tl : List (Addr × Obj)} {vs : List Value} {row : List P2} {i : Nat} {v : Value} (h : DatAll tl vs (row.map p2d)) (hv : vs[i]? = some v) : ∃ D x1 x2 t u n, v = .ref D ∧ (D, o2 x1 x2 t u n) ∈ tl ∧ row[i]? = some (x1, x2) := by
  induction row generalizing vs i with
  | nil => cases h; simp at hv
  | cons x row ih =>
    cases h with
    | cons h r =>
      cases i with
      | zero =>
        simp at hv
        subst hv
        obtain ⟨x1, x2⟩ := x
        cases h with
        | tuple hm ha =>
          cases ha with
          | cons h1 ha =>
            cases h1
            cases ha with
            | cons h2 ha =>
              cases h2
              cases ha
              exact ⟨_, x1, x2, _, _, _, rfl, hm, rfl⟩
      | succ i =>
        rw [List.getElem?_cons_succ] at hv
        obtain ⟨D, x1, x2, t, u, n, e1, e2, e3⟩ := ih r hv
        exact ⟨D, x1, x2, t, u, n, e1, e2, by rw [List.getElem?_cons_succ]; exact e3⟩
theorem take_next {row : List P2} {i : Nat} {x : P2} (h : row[i]? = some x) : row.take (i + 1) = row.take i ++ [x] := by
  rw [List.take_add_one, h]; rfl
theorem my_item {prog : Program} {w : World} {A : Around} {E : Value → Shared → Prop} {s : Shared} {h₀ : Heap} {L l : Addr} {value slice : PySem.Expr} {news tl : List (Addr × Obj)} {vs : List Value} {row : List P2} {nr : Nat} {k : Int} {u : Tok} {x1 x2 : Int} {Q : Value → Shared → Prop} (N : News h₀ L s.heap news) (hm : (l, PySem.W.listOf vs.toArray nr) ∈ news) (hd : DatAll tl vs (row.map p2d))
    (h0 : 0 ≤ k) (hfit : k < 2 ^ 63) (hx : row[k.toNat]? = some (x1, x2)) (h : ∀ D t u n, (D, o2 x1 x2 t u n) ∈ tl → Q (.ref D) s)
    (hs : subscripted slice false (.ref l) (.int k u) = operate [.ref l, .int k u] (getItem (.ref l) (.int k u)) := by with_unfolding_all rfl) :
    wpAny (model prog w) A (subscriptTail value slice (.ref l) (.int k u)) Q E s := by
  have hlt : k.toNat < row.length := (List.getElem?_eq_some_iff.mp hx).1
  have hll := hd.length
  rw [List.length_map] at hll
  refine kd_item N hm hd h0 (by rw [List.length_map]; omega) hfit (fun v d hv _ hD => ?_) hs
  have hv2 : k.toNat < vs.length := by omega
  rw [List.getElem?_map, hx] at hv
  cases hv
  cases hD with
  | tuple hm ha =>
    cases ha with
    | cons h1 ha =>
      cases h1
      cases ha with
      | cons h2 ha =>
        cases h2
        cases ha
        exact h _ _ _ _ hm
theorem cnt_pos {a b x1 x2 : Int} {ys : List Value} {y : Value} {l : List P2} (hl : ys.length = (l.filter fun one => one.1 * b < a * one.2).length) (h : x1 * b < a * x2) : (ys ++ [y]).length = ((l ++ [(x1, x2)]).filter fun one => one.1 * b < a * one.2).length := by
  rw [List.filter_append, List.length_append, List.length_append, hl, List.filter_cons_of_pos (by simpa using h)]
  rfl
theorem cnt_neg {a b x1 x2 : Int} {ys : List Value} {l : List P2} (hl : ys.length = (l.filter fun one => one.1 * b < a * one.2).length) (h : ¬ x1 * b < a * x2) : ys.length = ((l ++ [(x1, x2)]).filter fun one => one.1 * b < a * one.2).length := by
  rw [List.filter_append, List.length_append, hl, List.filter_cons_of_neg (by simpa using h)]
  rfl
theorem my_len {prog : Program} {w : World} {A : Around} {E : Value → Shared → Prop} {s : Shared} {h₀ : Heap} {L l : Addr} {news : List (Addr × Obj)} {vs : List Value} {o : Obj} {c kk : Nat} {Q : Value → Shared → Prop} (N : News h₀ L s.heap news) (hm : (l, o) ∈ news) (ho : o.cls = .type "list") (hd : o.data = .seq vs.toArray c) (hlen : vs.length = kk) (hk : kk ≤ 64)
    (h : Q (.int (kk : Int) (s.toks + 1)) { s with toks := s.toks + 1 + 1 }) : wpAny (model prog w) A (PySem.call (.builtin "len") [.ref l]) Q E s := by
  have hl : s.heap.IsList l vs.toArray := ⟨_, (N _ hm).1, ho, c, hd⟩
  have e : vs.toArray.size = kk := by rw [List.size_toArray, hlen]
  exact len_list hl (by rw [e]; omega) (by rw [e]; exact h)
theorem dec_t {p : Prop} {i : Decidable p} (h : p) : @decide p i = true := decide_eq_true h
theorem dec_f {p : Prop} {i : Decidable p} (h : ¬ p) : @decide p i = false := decide_eq_false h
theorem kqd_p2 (x : P2) : kqdOk 8 (p2d x) = true := rfl
theorem p2d_mem {row : List P2} {x : P2} : p2d x ∈ row.map p2d ↔ x ∈ row := by
  constructor
  · intro h
    obtain ⟨y, hy, e⟩ := List.mem_map.mp h
    have : y = x := by
      obtain ⟨y1, y2⟩ := y; obtain ⟨x1, x2⟩ := x
      simp only [p2d, Dat.tuple.injEq, List.cons.injEq, Dat.int.injEq, and_true] at e
      rw [e.1, e.2]
    exact this ▸ hy
  · exact fun h => List.mem_map.mpr ⟨x, h, rfl⟩
set_option maxRecDepth 100000 in
set_option maxHeartbeats 8000000 in
theorem lbest_c (w : World) (mean : ExcName → Option Value) (mg mb : Str → Option Value) (row : List P2) (a b : Int) (ta tb : Tok) (na : Nat) (A₁ R₁ : Addr) (vs : List Value) (nr : Nat) (tl : List (Addr × Obj)) (hrow : DatAll tl vs (row.map p2d)) (hlen : row.length ≤ 64) (out : P2) (hg : lbestF row (a, b) = some out)
    (news : List (Addr × Obj)) (hR : (R₁, PySem.W.listOf vs.toArray nr) ∈ news) (hA : (A₁, o2 a b ta tb na) ∈ news) (htl : ∀ p ∈ tl, p ∈ news) :
    CallC w mean mg mb 12 144 [.ref R₁, .ref A₁] news (fun v nx => ∃ D t u n, v = .ref D ∧ nx = (D, o2 out.1 out.2 t u n) :: news) := by
  intro dp un gd cn cs fa ccd cl outer A₀ base h₀ L m s Q E B F X N T hk hd hu hret
  obtain ⟨hin, hout⟩ := lbestF_step hg
  refine wpAny_call ?_
  k_dflt (refine' code_defC ?k1 ?k2 ?k3 ?k4 ?k5 ?kA ?kF ?kK ?k6 ?k7 ?k8 ?k9 ?kB ?kD ?_ ?c2 ?c3 ?c4; (case kA => exact rfl); (case kF => exact rfl); (case kK => assumption); (case k1 => k_asm); (case k2 => k_asm); (case k3 => k_asm); (case k4 => k_asm); (case k5 => k_asm); (case k6 => k_is); (case k7 => k_is); (case k8 => ktr_room); (case k9 => exact BindsTo.of_eq rfl); (case kB => exact rfl); (case kD => decide +kernel); (case c2 => exact rfl); (case c3 => exact rfl); (case c4 => exact rfl); k_whole; intro g' L' h' tk' cells' FG' F' N' Y' B' X' T' l1; (try k_lt l1); k_cells Y'; (try simp only [List.cons_append, List.nil_append] at N'); (try dsimp only); (try k_fold))
  k_with_none
  k_with "compareOp In ref ref" => refine hold ?_
  k_with "CompSrcT" => refine hold ?_
  k_steps
  unfold Hold
  rename News _ _ _ _ => N1
  rename Fr _ _ _ _ => F1
  refine kqd_isIn N1 (List.Mem.tail _ hR) rfl rfl hrow (fun p hp => List.Mem.tail _ (htl p hp)) (datIn_o2 (List.Mem.tail _ hA)) (fun _ hp => hp) (fun d hd => by obtain ⟨x, _, rfl⟩ := List.mem_map.mp hd; rfl) rfl ?hu ?_
  case hu => ktr_units
  by_cases hmem : (a, b) ∈ row
  · rw [dec_t (p2d_mem.mpr hmem)]
    k_steps
    rename News _ _ _ _ => N2
    have e := hin hmem
    subst e
    exact hret _ _ _ _ (by assumption) (List.forall_mem_cons.mpr ⟨N2 _ (by k_mem), fun p hp => N2 p (by repeat (first | exact hp | refine List.Mem.tail _ ?_))⟩) ⟨_, _, _, _, rfl, rfl⟩
  · rw [dec_f (fun h => hmem (p2d_mem.mp h))]
    obtain ⟨hbd, hba, hbb, kk, l1', l2', h1', h2', hk1, hk2, hk3, hk4, he1, he2⟩ := hout hmem
    k_steps
    unfold Hold
    have hvl := hrow.length
    rw [List.length_map] at hvl
    refine PyProof.Rows.LCt.CompSrcT.ledger rfl F1 N1 (List.Mem.tail _ hR) ?hsz ?_
    case hsz => (have hsl := sizeLine_eq; simp only [List.size_toArray]; omega)
    intro g
    refine my_restT (fun i ys => ys.length = ((row.take i).filter fun one => one.1 * b < a * one.2).length) rfl ?turn ?fin
    case turn =>
      intro i v ys I oI C oC D m₂ h tk E' hi hv hR' hC hx F2 N2 off ne
      have hv' : vs[i]? = some v := by simpa using hv
      obtain ⟨Di, x1, x2, t, u, n, rfl, hDi, hrx⟩ := row_at hrow hv'
      have hDn := htl _ hDi
      have hbx := hbd (x1, x2) (List.mem_of_getElem? hrx)
      dsimp only at hbx
      rw [take_next hrx]
      dsimp only [o2] at hDn hA
      clear N1 F1
      k_steps
      · exact PyProof.Rows.LCg.CompEnd.intro (by assumption) (by assumption) _ (fun _ hp => hp) off (.inr ⟨_, .tail _ hR, rfl, _, rfl⟩) ⟨rfl, cnt_pos hR' (by assumption)⟩
      · exact PyProof.Rows.LCg.CompEnd.intro (by assumption) (by assumption) _ (fun _ hp => hp) off (.inr ⟨_, .tail _ hR, rfl, _, rfl⟩) ⟨rfl, cnt_neg hR' (by assumption)⟩
    case fin =>
      intro ys hys
      intro D h tk F2 N2 off
      rw [show vs.toArray.size = row.length by simpa using hvl, List.take_length, hk1] at hys
      have hkl : kk < row.length := (List.getElem?_eq_some_iff.mp hk4).1
      clear N1 F1
      k_with_none
      k_with "call builtin:len" => (rename News _ _ _ _ => N1; refine my_len N1 (List.Mem.head _) rfl rfl hys (by omega) ?_; (try dsimp only))
      k_with "item" => ((with_reducible show wpAny _ _ (subscriptTail _ _ (Value.ref R₁) _) _ _ _); rename News _ _ _ _ => N1; refine my_item (x1 := l1') (x2 := l2') N1 (by k_mem) hrow (by omega) (by omega) (by rw [show ((kk : Int) - 1).toNat = kk - 1 by omega]; exact hk3) ?_; intro Dl tl' ul nl hDl; have hDl' := htl _ hDl; dsimp only [o2] at hDl'; try dsimp only)
      k_with "item" => ((with_reducible show wpAny _ _ (subscriptTail _ _ (Value.ref R₁) _) _ _ _); rename News _ _ _ _ => N1; refine my_item (x1 := h1') (x2 := h2') N1 (by k_mem) hrow (by omega) (by omega) (by rw [show ((kk : Int)).toNat = kk by omega]; exact hk4) ?_; intro Dh th uh nh hDh; have hDh' := htl _ hDh; dsimp only [o2] at hDh'; try dsimp only)
      have hbl := hbd (l1', l2') (List.mem_of_getElem? hk3)
      have hbh := hbd (h1', h2') (List.mem_of_getElem? hk4)
      dsimp only at hbl hbh
      k_steps
      · rename News _ _ _ _ => N1
        have e := he1 (by assumption)
        rw [if_pos (by assumption)] at e
        subst e
        exact hret _ _ _ _ (by assumption) (List.forall_mem_cons.mpr ⟨N1 _ (by k_mem), fun p hp => N1 p (by repeat (first | exact hp | refine List.Mem.tail _ ?_))⟩) ⟨_, _, _, _, rfl, rfl⟩
      · rename News _ _ _ _ => N1
        have e := he1 (by assumption)
        rw [if_neg (by assumption)] at e
        subst e
        exact hret _ _ _ _ (by assumption) (List.forall_mem_cons.mpr ⟨N1 _ (by k_mem), fun p hp => N1 p (by repeat (first | exact hp | refine List.Mem.tail _ ?_))⟩) ⟨_, _, _, _, rfl, rfl⟩
      · rename News _ _ _ _ => N1
        have e := he2 (by assumption)
        rw [if_pos (by assumption)] at e
        subst e
        exact hret _ _ _ _ (by assumption) (List.forall_mem_cons.mpr ⟨N1 _ (by k_mem), fun p hp => N1 p (by repeat (first | exact hp | refine List.Mem.tail _ ?_))⟩) ⟨_, _, _, _, rfl, rfl⟩
      · rename News _ _ _ _ => N1
        have e := he2 (by assumption)
        rw [if_neg (by assumption)] at e
        subst e
        exact hret _ _ _ _ (by assumption) (List.forall_mem_cons.mpr ⟨N1 _ (by k_mem), fun p hp => N1 p (by repeat (first | exact hp | refine List.Mem.tail _ ?_))⟩) ⟨_, _, _, _, rfl, rfl⟩
theorem freshFacts : True := by
  w_top off
  k_with_none
  exact trivial
set_option maxRecDepth 100000 in
theorem fin2p0 : partF 2 0 = true := by decide +kernel
set_option maxRecDepth 100000 in
theorem fin2p3 : partF 2 3 = true := by decide +kernel
set_option maxRecDepth 100000 in
theorem fin2p6 : partF 2 6 = true := by decide +kernel
set_option maxRecDepth 100000 in
theorem fin2p9 : partF 2 9 = true := by decide +kernel
set_option maxRecDepth 100000 in
theorem fin3p0 : partF 3 0 = true := by decide +kernel
set_option maxRecDepth 100000 in
theorem fin3p3 : partF 3 3 = true := by decide +kernel
set_option maxRecDepth 100000 in
theorem fin3p6 : partF 3 6 = true := by decide +kernel
set_option maxRecDepth 100000 in
theorem fin3p9 : partF 3 9 = true := by decide +kernel
set_option maxRecDepth 100000 in
theorem fin4p0 : partF 4 0 = true := by decide +kernel
set_option maxRecDepth 100000 in
theorem fin4p3 : partF 4 3 = true := by decide +kernel
set_option maxRecDepth 100000 in
theorem fin4p6 : partF 4 6 = true := by decide +kernel
set_option maxRecDepth 100000 in
theorem fin4p9 : partF 4 9 = true := by decide +kernel
set_option maxRecDepth 100000 in
theorem fin5p0 : partF 5 0 = true := by decide +kernel
set_option maxRecDepth 100000 in
theorem fin5p3 : partF 5 3 = true := by decide +kernel
set_option maxRecDepth 100000 in
theorem fin5p6 : partF 5 6 = true := by decide +kernel
set_option maxRecDepth 100000 in
theorem fin5p9 : partF 5 9 = true := by decide +kernel
set_option maxRecDepth 100000 in
theorem fin6p0 : partF 6 0 = true := by decide +kernel
set_option maxRecDepth 100000 in
theorem fin6p3 : partF 6 3 = true := by decide +kernel
set_option maxRecDepth 100000 in
theorem fin6p6 : partF 6 6 = true := by decide +kernel
set_option maxRecDepth 100000 in
theorem fin6p9 : partF 6 9 = true := by decide +kernel
set_option maxRecDepth 100000 in
theorem fin7p0 : partF 7 0 = true := by decide +kernel
set_option maxRecDepth 100000 in
theorem fin7p3 : partF 7 3 = true := by decide +kernel
set_option maxRecDepth 100000 in
theorem fin7p6 : partF 7 6 = true := by decide +kernel
set_option maxRecDepth 100000 in
theorem fin7p9 : partF 7 9 = true := by decide +kernel
set_option maxRecDepth 100000 in
theorem fin8p0 : partF 8 0 = true := by decide +kernel
set_option maxRecDepth 100000 in
theorem fin8p3 : partF 8 3 = true := by decide +kernel
set_option maxRecDepth 100000 in
theorem fin8p6 : partF 8 6 = true := by decide +kernel
set_option maxRecDepth 100000 in
theorem fin8p9 : partF 8 9 = true := by decide +kernel
set_option maxRecDepth 100000 in
theorem fin9p0 : partF 9 0 = true := by decide +kernel
set_option maxRecDepth 100000 in
theorem fin9p3 : partF 9 3 = true := by decide +kernel
set_option maxRecDepth 100000 in
theorem fin9p6 : partF 9 6 = true := by decide +kernel
set_option maxRecDepth 100000 in
theorem fin9p9 : partF 9 9 = true := by decide +kernel
theorem allF_ok : ∀ n : Nat, 2 ≤ n → n ≤ 9 → allF n = true := by
  intro n h1 h2
  have : n = 2 ∨ n = 3 ∨ n = 4 ∨ n = 5 ∨ n = 6 ∨ n = 7 ∨ n = 8 ∨ n = 9 := by omega
  rcases this with rfl | rfl | rfl | rfl | rfl | rfl | rfl | rfl
  · exact allF_of fin2p0 fin2p3 fin2p6 fin2p9
  · exact allF_of fin3p0 fin3p3 fin3p6 fin3p9
  · exact allF_of fin4p0 fin4p3 fin4p6 fin4p9
  · exact allF_of fin5p0 fin5p3 fin5p6 fin5p9
  · exact allF_of fin6p0 fin6p3 fin6p6 fin6p9
  · exact allF_of fin7p0 fin7p3 fin7p6 fin7p9
  · exact allF_of fin8p0 fin8p3 fin8p6 fin8p9
  · exact allF_of fin9p0 fin9p3 fin9p6 fin9p9
theorem midF_step {n : Nat} {row : List P2} (h : midF n = some row) : ∃ times units, farF n = some (row, times) ∧ turnsF n row (0, 1) = some (1, 1) ∧ unitsF n = some units ∧ row.getLast? = some (1, 1) ∧ row.length = 1 + units.length ∧ (row.reverse.map fun one => (one.2 - one.1, one.2)) = row ∧ times.sum = 3 * row.length - 4 := by
  unfold midF at h
  cases e1 : farF n with
  | none => simp only [e1] at h; cases h
  | some p =>
    obtain ⟨row', times⟩ := p
    simp only [e1, Option.bind_some] at h
    cases e2 : turnsF n row' (0, 1) with
    | none => simp only [e2] at h; cases h
    | some total =>
      simp only [e2, Option.bind_some] at h
      cases e3 : unitsF n with
      | none => simp only [e3] at h; cases h
      | some units =>
        simp only [e3, Option.bind_some] at h
        split at h
        · cases h
        · rename_i q1
          split at h
          · cases h
          · rename_i q2
            split at h
            · cases h
            · rename_i q3
              split at h
              · cases h
              · rename_i q4
                split at h
                · cases h
                · rename_i q5
                  cases h
                  simp only [ne_eq, Decidable.not_not] at q1 q2 q3 q4 q5
                  exact ⟨times, units, rfl, by rw [e2, q3], rfl, q1, q2, q4, q5⟩
theorem farL_len {n : Int} : ∀ {k : Nat} {one other : P2} {found : List P2} {times : List Int} {r : List P2 × List Int}, farL n k one other found times = some r → r.1.length + 1 ≤ found.length + k ∧ r.2.length + 1 ≤ times.length + k := by
  intro k
  induction k with
  | zero => intro one other found times r h; cases h
  | succ k ih =>
    intro one other found times r h
    obtain ⟨a1, b1⟩ := one
    obtain ⟨a2, b2⟩ := other
    obtain ⟨k', e, hgo, hend⟩ := farL_step h
    have ek : k = k' := by omega
    subst ek
    by_cases hc : a2 ≤ b2
    · have := ih (hgo hc).2
      rw [List.length_append, List.length_append, List.length_singleton, List.length_singleton] at this
      omega
    · have := hend hc
      subst this
      dsimp only
      omega
/-- all that the walk of the law asks of the numbers drawn -/
theorem facts (x0 x1 x2 : Int) (h0 : 0 ≤ x0) (h0' : x0 < 8) (h1 : 0 ≤ x1) (h1' : x1 < 12) (h2 : 0 ≤ x2) (h2' : x2 < 2 + x0 + 1 + x1 + 1) :
    ∃ (N : Nat) (r1 r2 : Int) (row : List P2) (times units : List Int) (out : P2), 2 + x0 = (N : Int) ∧ 2 ≤ N ∧ N ≤ 9 ∧ ratF x2 (2 + x0 + 1 + x1) = some (r1, r2) ∧ farF (N : Int) = some (row, times) ∧ row.length ≤ 64 ∧ times.length ≤ 64 ∧ turnsF (N : Int) row (0, 1) = some (1, 1) ∧ unitsF N = some units ∧ row.getLast? = some (1, 1) ∧
      row.length = 1 + units.length ∧ (row.reverse.map fun one => (one.2 - one.1, one.2)) = row ∧ times.sum = 3 * row.length - 4 ∧ bestF (r1, r2) (N : Int) = some out ∧ lbestF row (r1, r2) = some out := by
  obtain ⟨a, rfl⟩ := Int.eq_ofNat_of_zero_le h0
  obtain ⟨b, rfl⟩ := Int.eq_ofNat_of_zero_le h1
  obtain ⟨c, rfl⟩ := Int.eq_ofNat_of_zero_le h2
  have ha := allF_ok (2 + a) (by omega) (by omega)
  unfold allF at ha
  cases em : midF (2 + a) with
  | none => rw [em] at ha; cases ha
  | some row =>
    rw [em] at ha
    simp only at ha
    unfold finAll finB at ha
    rw [List.all_eq_true] at ha
    have hb := ha b (List.mem_range.mpr (by omega))
    rw [List.all_eq_true] at hb
    have hc := hb c (List.mem_range.mpr (by omega))
    have eb : ((2 + a + 1 + b : Nat) : Int) = 2 + (a : Int) + 1 + (b : Int) := by omega
    rw [eb] at hc
    cases er : ratF (c : Int) (2 + (a : Int) + 1 + (b : Int)) with
    | none => simp only [er] at hc; cases hc
    | some r =>
      obtain ⟨r1, r2⟩ := r
      simp only [er, Bool.and_eq_true] at hc
      have hf := hc.2
      unfold finF at hf
      cases eo : bestF (r1, r2) ((2 + a : Nat) : Int) with
      | none => simp only [eo] at hf; cases hf
      | some out =>
        cases eo2 : lbestF row (r1, r2) with
        | none => simp only [eo, eo2] at hf; cases hf
        | some out2 =>
          simp only [eo, eo2] at hf
          have : out = out2 := by simpa using hf
          subst this
          obtain ⟨times, units, f1, f2, f3, f4, f5, f6, f7⟩ := midF_step em
          have hl := farL_len (n := ((2 + a : Nat) : Int)) f1
          simp only [List.length_singleton, List.length_nil] at hl
          exact ⟨2 + a, r1, r2, row, times, units, out, by omega, by omega, by omega, rfl, f1, by omega, by omega, f2, f3, f4, f5, f6, f7, eo, eo2⟩
theorem freshTurns : True := by
  w_top off
  k_with_none
  exact trivial
theorem at_law {p : Prop} {h₀ h : Heap} {L Dt F T Dr : Addr} {o1 o5 : Obj} {q q1 q2 q3 : Addr × Obj} {vs us : List Value} {cf ct : Nat} {tl : List (Addr × Obj)}
    (N : News h₀ L h ((Dt, o1) :: q :: (F, PySem.W.listOf vs.toArray cf) :: (T, PySem.W.listOf us.toArray ct) :: (Dr, o5) :: q1 :: q2 :: q3 :: tl))
    (k : ∀ Dt' F' T' Dr' vs' us' cf' ct' tl', Dt' = Dt → F' = F → T' = T → Dr' = Dr → vs' = vs → us' = us → cf' = cf → ct' = ct → tl' = tl → p) : p := have _ := N; k Dt F T Dr vs us cf ct tl rfl rfl rfl rfl rfl rfl rfl rfl rfl
theorem turnF_step {n a b c d : Int} {total t : P2} (h : turnF n (a, b) (c, d) total = some t) : ¬ b > n ∧ ratF a b = some (a, b) ∧ rcmpF (a, b) (c, d) = some (-1) ∧ ∃ u, invF a b = some (some u) ∧ b ≠ 0 ∧ d = n - (n + u).fmod b ∧
    ((-1048576 < a ∧ a < 1048576) ∧ (-1048576 < b ∧ b < 1048576) ∧ (-1048576 < c ∧ c < 1048576) ∧ (-1048576 < d ∧ d < 1048576)) ∧ raddF total (1, b * d) = some t := by
  unfold turnF at h
  dsimp only at h
  split at h
  · cases h
  · rename_i h1
    cases e1 : ratF a b with
    | none => rw [e1] at h; cases h
    | some q =>
      rw [e1] at h
      simp only [Option.bind_some] at h
      split at h
      · cases h
      · rename_i h2
        simp only [ne_eq, Decidable.not_not] at h2
        cases e2 : rcmpF (a, b) (c, d) with
        | none => rw [e2] at h; cases h
        | some cc =>
          rw [e2] at h
          simp only [Option.bind_some] at h
          split at h
          · cases h
          · rename_i h3
            simp only [ne_eq, Decidable.not_not] at h3
            cases e3 : invF a b with
            | none => rw [e3] at h; cases h
            | some u =>
              rw [e3] at h
              simp only [Option.bind_some] at h
              cases u with
              | none => cases h
              | some u =>
                simp only at h
                split at h
                · cases h
                · rename_i h4
                  split at h
                  · cases h
                  · rename_i h5
                    simp only [ne_eq, Decidable.not_not] at h5
                    split at h
                    · rename_i h6
                      exact ⟨h1, by rw [h2], by rw [h3], u, rfl, h4, h5, b4_iff.mp h6, h⟩
                    · cases h
theorem turnsF_step {n : Int} {row : List P2} {i : Nat} {total r : P2} (hi : i + 1 < row.length) (h : turnsF n (row.drop i) total = some r) : ∃ a b c d t1 t2, row[i]? = some (a, b) ∧ row[i + 1]? = some (c, d) ∧ turnF n (a, b) (c, d) total = some (t1, t2) ∧ turnsF n (row.drop (i + 1)) (t1, t2) = some r := by
  have e1 : row.drop i = row[i] :: row.drop (i + 1) := (List.getElem_cons_drop (by omega)).symm
  have e2 : row.drop (i + 1) = row[i + 1] :: row.drop (i + 1 + 1) := (List.getElem_cons_drop (by omega)).symm
  rw [e1, e2] at h
  unfold turnsF at h
  cases e : turnF n row[i] row[i + 1] total with
  | none => rw [e] at h; cases h
  | some t =>
    rw [e] at h
    simp only [Option.bind_some] at h
    refine ⟨row[i].1, row[i].2, row[i + 1].1, row[i + 1].2, t.1, t.2, List.getElem?_eq_getElem (by omega), List.getElem?_eq_getElem hi, e, ?_⟩
    rw [e2]
    exact h
theorem turnsF_end {n : Int} {row : List P2} {i : Nat} {total r : P2} (hi : row.length = i + 1) (h : turnsF n (row.drop i) total = some r) : total = r := by
  have e1 : row.drop i = row[i] :: row.drop (i + 1) := (List.getElem_cons_drop (by omega)).symm
  rw [e1, List.drop_of_length_le (by omega)] at h
  unfold turnsF at h
  exact Option.some.inj h
structure LS where
  D : Addr
  a : Int
  b : Int
  t : Tok
  u : Tok
  n : Nat
theorem my_tup0 {prog : Program} {w : World} {A : Around} {E : Value → Shared → Prop} {s : Shared} {h₀ : Heap} {L D : Addr} {value slice : PySem.Expr} {news : List (Addr × Obj)} {a b : Int} {t u tk : Tok} {n : Nat} {Q : Value → Shared → Prop} (N : News h₀ L s.heap news) (hm : (D, o2 a b t u n) ∈ news) (h : Q (.int a t) s)
    (hs : subscripted slice false (.ref D) (.int 0 tk) = operate [.ref D, .int 0 tk] (getItem (.ref D) (.int 0 tk)) := by with_unfolding_all rfl) :
    wpAny (model prog w) A (subscriptTail value slice (.ref D) (.int 0 tk)) Q E s :=
  item_tupleT (l := [.int a t, .int b u]) ⟨_, (N _ hm).1, rfl, n, rfl⟩ (by decide) (by decide) (by rfl) (by rfl) h hs
theorem my_tup1 {prog : Program} {w : World} {A : Around} {E : Value → Shared → Prop} {s : Shared} {h₀ : Heap} {L D : Addr} {value slice : PySem.Expr} {news : List (Addr × Obj)} {a b : Int} {t u tk : Tok} {n : Nat} {Q : Value → Shared → Prop} (N : News h₀ L s.heap news) (hm : (D, o2 a b t u n) ∈ news) (h : Q (.int b u) s)
    (hs : subscripted slice false (.ref D) (.int 1 tk) = operate [.ref D, .int 1 tk] (getItem (.ref D) (.int 1 tk)) := by with_unfolding_all rfl) :
    wpAny (model prog w) A (subscriptTail value slice (.ref D) (.int 1 tk)) Q E s :=
  item_tupleT (l := [.int a t, .int b u]) ⟨_, (N _ hm).1, rfl, n, rfl⟩ (by decide) (by decide) (by rfl) (by rfl) h hs
local macro_rules | `(tactic| walk_at "subscriptTail") => `(tactic| (k_here; (with_reducible show wpAny _ _ (subscriptTail _ _ (Value.ref _) (Value.int 0 _)) _ _ _); k_dflt (refine' my_tup0 ?k1 ?k2 ?_; (case k1 => k_asm); (case k2 => k_mem); k_whole)))
local macro_rules | `(tactic| walk_at "subscriptTail") => `(tactic| (k_here; (with_reducible show wpAny _ _ (subscriptTail _ _ (Value.ref _) (Value.int 1 _)) _ _ _); k_dflt (refine' my_tup1 ?k1 ?k2 ?_; (case k1 => k_asm); (case k2 => k_mem); k_whole)))
theorem freshComp2 : True := by
  w_top off
  k_with_none
  exact trivial
theorem turn2_in (elt t1 i1 t2 i2 : PySem.Expr) (ifs : List PySem.Expr) (scope : Scope) (pos : Pos) (it acc : Value) (env : Env) :
    compTurn (.ListComp elt [⟨t1, i1, [], 0⟩, ⟨t2, i2, ifs, 0⟩] scope pos) 1 it acc env = (do
      standAt i2.pos
      match ← pyNext it with
      | none => pure (.done .next)
      | some v =>
        letOwnedTupleGo t2 it v
        assign t2 env v
        let mut ok := true
        for c in ifs do
          if ok then ok ← isTrue c env (eval c env)
        if ok then
          (do let _ ← PySem.call (.builtin "list.append") [acc, ← eval elt env])
        again (.compLoop (.ListComp elt [⟨t1, i1, [], 0⟩, ⟨t2, i2, ifs, 0⟩] scope pos) 1 it acc env)) := by rfl
theorem turn2_out (elt t1 i1 t2 i2 : PySem.Expr) (ifs : List PySem.Expr) (scope : Scope) (pos : Pos) (it acc : Value) (env : Env) :
    compTurn (.ListComp elt [⟨t1, i1, [], 0⟩, ⟨t2, i2, ifs, 0⟩] scope pos) 0 it acc env = (do
      standAt i1.pos
      match ← pyNext it with
      | none => pure (.done .next)
      | some v =>
        letOwnedTupleGo t1 it v
        assign t1 env v
        let mut ok := true
        for c in ([] : List PySem.Expr) do
          if ok then ok ← isTrue c env (eval c env)
        if ok then
          let x ← eval i2 env
          standAt i2.pos
          let x ← foldedSetIterable i2 env x
          let _ ← runOwn (.compStart (.ListComp elt [⟨t1, i1, [], 0⟩, ⟨t2, i2, ifs, 0⟩] scope pos) 1 (← holding [x] (pyIter x)) acc env) env
        again (.compLoop (.ListComp elt [⟨t1, i1, [], 0⟩, ⟨t2, i2, ifs, 0⟩] scope pos) 0 it acc env)) := by rfl
section
variable {prog : Program} {w : World} {A : Around} {E : Value → Shared → Prop} {R : Result → Shared → Prop} {s : Shared}
theorem loop2_in {elt t1 i1 t2 i2 : PySem.Expr} {ifs : List PySem.Expr} {scope : Scope} {pos : Pos} {it acc : Value} {env : Env} (I : Nat → Shared → Prop)
    (turn : ∀ n s, I n s → wpAny (model prog w) A (pyNext it) (fun r s₁ => match r with
      | none => R (.ok .next) s₁
      | some v => wpAny (model prog w) A (assign t2 env v) (fun _ s₂ =>
          wpAny (model prog w) A (forIn ifs true fun c r => if r = true then do let ok ← isTrue c env (eval c env); pure (ForInStep.yield ok) else pure (ForInStep.yield r)) (fun ok s₃ =>
            if ok = true then wpAny (model prog w) A (eval elt env) (fun x s₄ =>
              wpAny (model prog w) A (PySem.call (.builtin "list.append") [acc, x]) (fun _ s₅ => ∃ m, m < n ∧ I m s₅) (notedBy (model prog w) A env fun e s' => R (.error e) s') s₄) (notedBy (model prog w) A env fun e s' => R (.error e) s') s₃
            else ∃ m, m < n ∧ I m s₃) (notedBy (model prog w) A env fun e s' => R (.error e) s') s₂) (notedBy (model prog w) A env fun e s' => R (.error e) s') s₁) (notedBy (model prog w) A env fun e s' => R (.error e) s') s)
    (n : Nat) (h : I n s) (ht : ∀ v, letOwnedTupleGo t2 it v = pure () := by intro _; rfl) :
    codeAny (model prog w) A (.compLoop (.ListComp elt [⟨t1, i1, [], 0⟩, ⟨t2, i2, ifs, 0⟩] scope pos) 1 it acc env) R s := by
  refine codeAny_loop rfl I (fun n s hI => ?_) n h
  show wpAny _ A ((compTurn (.ListComp elt [⟨t1, i1, [], 0⟩, ⟨t2, i2, ifs, 0⟩] scope pos) 1 it acc env).onRaise (fun x => do noteFrame x env; theTreesLotGoes x)) _ _ s
  refine wpAny_noted ?_
  rw [turn2_in]
  refine wpAny_bind (wpAny_standAt (wpAny_bind (wpAny_mono (turn n s hI) (fun r s₁ h₁ => ?_) fun _ _ h' => h')))
  cases r with
  | none => exact wpAny_pure h₁
  | some v =>
    refine wpAny_bind (wpAny_of_eq (ht v) ?_)
    refine wpAny_bind (wpAny_mono h₁ (fun _ s₂ h₂ => wpAny_bind (wpAny_mono h₂ (fun ok s₃ h₃ => ?_) fun _ _ h' => h')) fun _ _ h' => h')
    cases ok with
    | false => exact wpAny_pure ⟨rfl, h₃⟩
    | true =>
      exact wpAny_bind (wpAny_bind (wpAny_mono h₃ (fun x s₄ h₄ => wpAny_bind (wpAny_mono h₄ (fun _ s₅ h₅ => wpAny_pure (wpAny_pure ⟨rfl, h₅⟩)) fun _ _ h' => h')) fun _ _ h' => h'))
theorem loop2_out {elt t1 i1 t2 i2 : PySem.Expr} {ifs : List PySem.Expr} {scope : Scope} {pos : Pos} {it acc : Value} {env : Env} (I : Nat → Shared → Prop)
    (turn : ∀ n s, I n s → wpAny (model prog w) A (pyNext it) (fun r s₁ => match r with
      | none => R (.ok .next) s₁
      | some v => wpAny (model prog w) A (assign t1 env v) (fun _ s₂ => wpAny (model prog w) A (eval i2 env) (fun x s₃ => wpAny (model prog w) A (pyIter x) (fun it' s₄ =>
          codeAny (model prog w) (A.mark none) (.compStart (.ListComp elt [⟨t1, i1, [], 0⟩, ⟨t2, i2, ifs, 0⟩] scope pos) 1 it' acc env) (fun r s' => match r with
            | .ok _ => ∃ m, m < n ∧ I m s'
            | .error e => cameBackBy (model prog w) A env (notedBy (model prog w) A env fun e s' => R (.error e) s') e s') s₄)
          (notedBy (model prog w) A env fun e s' => R (.error e) s') s₃) (notedBy (model prog w) A env fun e s' => R (.error e) s') s₂) (notedBy (model prog w) A env fun e s' => R (.error e) s') s₁) (notedBy (model prog w) A env fun e s' => R (.error e) s') s)
    (n : Nat) (h : I n s) (ht : ∀ v, letOwnedTupleGo t1 it v = pure () := by intro _; rfl) (hs : ∀ x, foldedSetIterable i2 env x = pure x := by intro _; rfl) :
    codeAny (model prog w) A (.compLoop (.ListComp elt [⟨t1, i1, [], 0⟩, ⟨t2, i2, ifs, 0⟩] scope pos) 0 it acc env) R s := by
  refine codeAny_loop rfl I (fun n s hI => ?_) n h
  show wpAny _ A ((compTurn (.ListComp elt [⟨t1, i1, [], 0⟩, ⟨t2, i2, ifs, 0⟩] scope pos) 0 it acc env).onRaise (fun x => do noteFrame x env; theTreesLotGoes x)) _ _ s
  refine wpAny_noted ?_
  rw [turn2_out]
  refine wpAny_bind (wpAny_standAt (wpAny_bind (wpAny_mono (turn n s hI) (fun r s₁ h₁ => ?_) fun _ _ h' => h')))
  cases r with
  | none => exact wpAny_pure h₁
  | some v =>
    refine wpAny_bind (wpAny_of_eq (ht v) ?_)
    refine wpAny_bind (wpAny_mono h₁ (fun _ s₂ h₂ => wpAny_bind (wpAny_pure ?_)) fun _ _ h' => h')
    refine wpAny_bind (wpAny_mono h₂ (fun x s₃ h₃ => wpAny_bind (wpAny_standAt (wpAny_bind (wpAny_of_eq (hs x) (wpAny_bind (wpAny_holding (wpAny_mono h₃ (fun it' s₄ h₄ => ?_) fun _ _ h' => h'))))))) fun _ _ h' => h')
    refine wpAny_bind (wpAny_runOwn (codeAny_mono h₄ (fun r s' hr => ?_)))
    cases r with
    | ok f => exact wpAny_pure ⟨rfl, hr⟩
    | error e => exact hr
end
section
open PyProof.Rows.LCg
variable {prog : Program} {w : World} {A : Around} {E : Value → Shared → Prop} {R : Result → Shared → Prop} {s : Shared}
theorem start2_in {elt t1 i1 t2 i2 : PySem.Expr} {ifs : List PySem.Expr} {scope : Scope} {pos : Pos} {it acc : Value} {env : Env}
    (h0 : codeAny (model prog w) A (.compLoop (.ListComp elt [⟨t1, i1, [], 0⟩, ⟨t2, i2, ifs, 0⟩] scope pos) 1 it acc env) R s)
    (h : wpAny (model prog w) A (pyIter it) (fun it' s' => codeAny (model prog w) A (.compLoop (.ListComp elt [⟨t1, i1, [], 0⟩, ⟨t2, i2, ifs, 0⟩] scope pos) 1 it' acc env) R s')
      (notedBy (model prog w) A env fun x s' => R (.error x) s') s) :
    codeAny (model prog w) A (.compStart (.ListComp elt [⟨t1, i1, [], 0⟩, ⟨t2, i2, ifs, 0⟩] scope pos) 1 it acc env) R s := by
  refine codeAny_of_tree ?_
  show wpAny _ _ ((compStart (.ListComp elt [⟨t1, i1, [], 0⟩, ⟨t2, i2, ifs, 0⟩] scope pos) 1 it acc env).onRaise (fun x => do noteFrame x env; standAt theWindowsPlace)) _ _ s
  refine wpAny_notedAt ?_
  unfold compStart
  show wpAny _ _ (ask >>= _) _ _ s
  refine wpAny_bind (wpAny_askSetting (wpAny_ite ?_))
  split
  · first
      | exact wpAny_bind (wpAny_pure (wpAny_pure (And.intro rfl h0)))
      | exact wpAny_pure (And.intro rfl h0)
  · first
      | exact wpAny_bind (wpAny_rule (wpAny_bind (wpAny_standAt (wpAny_bind (wpAny_mono h (fun it' s' h' => wpAny_pure (And.intro rfl h')) fun _ _ x => x)))))
      | (refine wpAny_bind (wpAny_rule ?_); show wpAny _ _ (standAt i2.pos >>= _) _ _ s; exact wpAny_bind (wpAny_standAt (wpAny_bind (wpAny_mono h (fun it' s' h' => wpAny_pure (And.intro rfl h')) fun _ _ x => x))))
theorem inner2 {h₀ : Heap} {L : Addr} {m m' : Str → Option Value} {env : Env} {elt i1 i2 ct : PySem.Expr} {x1 x2 : Str} {px1 px2 pos : Pos} {scope : Scope} {cl : List (Str × Addr)} {C D r : Addr} {v1 : Value} {ys : List Value} {news : List (Addr × Obj)} {a b : Int} {t u v : Tok} {n : Nat}
    (Rr : Nat → List Value → Prop)
    (hA : A.handled = none) (hkind : scope.kind = .function) (hx2 : scope.names.lookup x2 = some .local) (hx12 : x1 ≠ x2)
    (F : Fr h₀ L s.heap m) (hn : s.heap.Ns C m') (hm : m' x1 = some v1) (N : News h₀ L s.heap ((D, lst ys) :: news)) (hC₀ : h₀.get? C = none) (hCL : C ≠ L) (hDC : D ≠ C) (off : ∀ p ∈ news, p.1 ≠ C ∧ p.1 ≠ D)
    (hr : IsRange s.heap r a b 1 t u v) (hsm : Builtin.Range.small a b 1 = true) (hsz : Builtin.Range.rangeSize a b 1 = (n : Int)) (hle : ys.length + n ≤ sizeLine) (h0 : Rr 0 ys)
    (turn : ∀ j ys' I oI oC m₃ h tk t2 (E' : Value → Shared → Prop), j < n → Rr j ys' → NsObj oC m₃ → m₃ x1 = some v1 → m₃ x2 = some (.int (a + (j : Int)) t2) → Fr h₀ L h m → News h₀ L h ((I, oI) :: (C, oC) :: (D, lst ys') :: news) → Off3 I C D news → ((@Ne Nat I C) ∧ (@Ne Nat I D) ∧ (@Ne Nat C D)) →
      wpAny (model prog w) A (isTrue ct (compEnvC scope cl C env) (eval ct (compEnvC scope cl C env))) (fun ok s' => if ok = true then wpAny (model prog w) A (eval elt (compEnvC scope cl C env)) (CompEnd h₀ L m { s with heap := h, toks := tk } I oI C oC D (lst ys') (fun _ => True) (MyEl news (Rr (j + 1)) ys')) E' s'
        else CompEnd h₀ L m { s with heap := h, toks := tk } I oI C oC D (lst ys') (fun _ => True) (fun _ news' => MyNo news (Rr (j + 1)) ys' news') Value.none s') E' { s with heap := h, toks := tk })
    (done : ∀ ys' h tk m'', Rr n ys' → ys'.length ≤ ys.length + n → Fr h₀ L h m → h.Ns C m'' → News h₀ L h ((D, lst ys') :: news) → (∀ q o, q ≠ C → q ≠ D → s.heap.get? q = some o → h.get? q = some o → True) → R (.ok .next) { s with heap := h, toks := tk }) :
    wpAny (model prog w) A (pyIter (.ref r)) (fun it' s₄ => codeAny (model prog w) A (.compStart (.ListComp elt [⟨.Name x1 px1, i1, [], 0⟩, ⟨.Name x2 px2, i2, [ct], 0⟩] scope pos) 1 it' (.ref D) (compEnvC scope cl C env)) R s₄) E s := by
  refine wpAny_pyIter_range hr hsm ?_
  have W := range_walks (prog := prog) (w := w) (I := s.heap.objs.size) hA a n
  obtain ⟨oC0, heC0, _⟩ := ns_obj hn
  have hCI : C ≠ s.heap.objs.size := Nat.ne_of_lt (Heap.lt_size heC0)
  have hDI : D ≠ s.heap.objs.size := Nat.ne_of_lt (Heap.lt_size (N _ List.mem_cons_self).1)
  have hIL : L ≠ s.heap.objs.size := Nat.ne_of_lt F.ns.lt
  have hI₀ : h₀.get? s.heap.objs.size = none := next_is_new F
  have offI : ∀ p ∈ news, p.1 ≠ s.heap.objs.size := fun p hp => Nat.ne_of_lt (Heap.lt_size (N p (List.mem_cons_of_mem _ hp)).1)
  have hDL : D ≠ L := (N _ List.mem_cons_self).2.1
  have hD₀ : h₀.get? D = none := (N _ List.mem_cons_self).2.2
  generalize hit : ({ cls := .type "range_iterator", data := .fields #[rawInt a, rawInt (Builtin.Range.rangeSize a b 1), rawInt 1] } : Obj) = itO
  have up : ∀ q o, s.heap.get? q = some o → (s.heap.push itO).get? q = some o := fun q o e => Heap.get?_push_of_some _ e
  have hst : IsRangeIter (s.heap.push itO) s.heap.objs.size (a + ((0 : Nat) : Int) * 1) ((n : Int) - ((0 : Nat) : Int)) 1 := by
    subst hit
    rw [hsz]
    simpa using Heap.get?_push_size _ rfl
  have loop : codeAny (model prog w) A (.compLoop (.ListComp elt [⟨.Name x1 px1, i1, [], 0⟩, ⟨.Name x2 px2, i2, [ct], 0⟩] scope pos) 1 (.ref s.heap.objs.size) (.ref D) (compEnvC scope cl C env)) R { s with heap := s.heap.push itO } := by
    refine loop2_in
      (fun k s' => ∃ h' tk i ys' m'', s' = { s with heap := h', toks := tk } ∧ i ≤ n ∧ k = n + 1 - i ∧ ys'.length ≤ ys.length + i ∧ IsRangeIter h' s.heap.objs.size (a + (i : Nat) * 1) ((n : Int) - (i : Nat)) 1 ∧ Fr h₀ L h' m ∧ h'.Ns C m'' ∧ m'' x1 = some v1 ∧ News h₀ L h' ((D, lst ys') :: news) ∧ Rr i ys') ?_ (n + 1)
      ⟨s.heap.push itO, s.toks, 0, ys, m', rfl, Nat.zero_le _, rfl, Nat.le_refl _, hst, F.keeps up, hn.at' (fun o e => up _ o e), hm, fun p hp => ⟨up _ _ (N p hp).1, (N p hp).2⟩, h0⟩
    rintro k s' ⟨h', tk, i, ys', m'', rfl, hi, rfl, hyl, hst', F', hn', hm', N', hR'⟩
    by_cases hlt : i < n
    · refine W.item i _ _ _ hlt hst' fun v h₂ tk₂ hPv hst₂ hk₂ => ?_
      obtain ⟨t2, rfl⟩ := hPv
      refine wpAny_assign_Name (wpAny_storeName_local (lookup_relabel_local hx2) (hn'.at' fun o e => hk₂ _ o (by simpa using hCI) e) (fun h₃ hn₃ hs₃ => ?_) (by simp [compEnvC, relabel, hkind]))
      refine wpAny_tests_one ?_
      have hst₃ : IsRangeIter h₃ s.heap.objs.size (a + ((i + 1 : Nat) : Int) * 1) ((n : Int) - ((i + 1 : Nat) : Int)) 1 := W.frame (i + 1) h₂ h₃ hst₂ fun b hb o e => hs₃.extBut b o (fun q => hCI (by rw [← List.mem_singleton.mp hb]; exact q.symm)) e
      have heI : h₃.get? s.heap.objs.size = some _ := hst₃
      obtain ⟨oC, heC, hoC⟩ := ns_obj hn₃
      have F₃ : Fr h₀ L h₃ m := (fr_but F' hk₂ hIL hI₀).change hs₃ hCL hC₀
      have N₂ : News h₀ L h₂ ((D, lst ys') :: news) := news_but N' hk₂ fun p hp => by
        rcases List.mem_cons.mp hp with rfl | hp
        · exact hDI
        · exact offI p hp
      have N₃ : News h₀ L h₃ ((s.heap.objs.size, _) :: (C, oC) :: (D, lst ys') :: news) := fun p hp => by
        rcases List.mem_cons.mp hp with rfl | hp
        · exact ⟨heI, Ne.symm hIL, hI₀⟩
        · rcases List.mem_cons.mp hp with rfl | hp
          · exact ⟨heC, hCL, hC₀⟩
          · have z := N₂ p hp
            refine ⟨hs₃.extBut _ _ ?_ z.1, z.2⟩
            rcases List.mem_cons.mp hp with rfl | hp
            · exact hDC
            · exact (off p hp).1
      have off3 : Off3 s.heap.objs.size C D news := Off3.of fun p hp => ⟨offI p hp, off p hp⟩
      refine wpAny_mono (turn i ys' s.heap.objs.size _ oC _ h₃ _ t2 _ hlt hR' hoC (by simpa [hx12] using hm') (by simp) F₃ N₃ off3 ⟨Ne.symm hCI, Ne.symm hDI, Ne.symm hDC⟩) (fun ok s₄ h₄ => ?_) fun _ _ e => e
      cases ok with
      | true =>
        simp only [if_true] at h₄ ⊢
        refine wpAny_mono h₄ (fun y s₅ h₅ => ?_) fun _ _ e => e
        obtain ⟨g₄, tk₄, news₄, rfl, F₄, N₄, off₄, _, hnw, R₄⟩ := h₅
        subst hnw
        have zI := (N₄ (s.heap.objs.size, _) List.mem_cons_self).1
        have zC := (N₄ (C, oC) (List.mem_cons_of_mem _ List.mem_cons_self)).1
        have zD := (N₄ (D, lst ys') (List.mem_cons_of_mem _ (List.mem_cons_of_mem _ List.mem_cons_self))).1
        have N₄' : News h₀ L g₄ news₄ := fun p hp => N₄ p (List.mem_cons_of_mem _ (List.mem_cons_of_mem _ (List.mem_cons_of_mem _ hp)))
        refine append_at (hsz := by show ys'.toArray.size ≤ sizeLine; rw [List.size_toArray]; omega) zD fun h₅ hs₅ hD₅ => ?_
        refine ⟨n + 1 - (i + 1), by omega, h₅, tk₄, i + 1, ys' ++ [y], _, rfl, hlt, rfl, by rw [List.length_append, List.length_singleton]; omega, ?_, F₄.change hs₅ hDL hD₀, (hoC.ns zC).sameBut hs₅ (Ne.symm hDC), by simpa [hx12] using hm', fun p hp => ?_, R₄⟩
        · exact hs₅.extBut _ _ (Ne.symm hDI) zI
        · rcases List.mem_cons.mp hp with rfl | hp
          · exact ⟨hD₅.trans (congrArg some (lst_snoc ys' y)), hDL, hD₀⟩
          · exact ⟨hs₅.extBut _ _ (off p hp).2 (N₄' p hp).1, (N₄' p hp).2⟩
      | false =>
        simp only [Bool.false_eq_true, if_false] at h₄ ⊢
        obtain ⟨h₅, tk₄, news₄, rfl, F₄, N₄, off₄, _, hnw, R₄⟩ := h₄
        subst hnw
        have zI := (N₄ (s.heap.objs.size, _) List.mem_cons_self).1
        have zC := (N₄ (C, oC) (List.mem_cons_of_mem _ List.mem_cons_self)).1
        refine ⟨n + 1 - (i + 1), by omega, h₅, tk₄, i + 1, ys', _, rfl, hlt, rfl, by omega, zI, F₄, hoC.ns zC, by simpa [hx12] using hm', fun p hp => N₄ p (List.mem_cons_of_mem _ (List.mem_cons_of_mem _ hp)), R₄⟩
    · obtain rfl : i = n := Nat.le_antisymm hi (Nat.not_lt.mp hlt)
      refine W.done _ _ _ hst' fun h₂ tk₂ hk₂ => ?_
      exact done ys' h₂ tk₂ m'' hR' hyl (fr_but F' hk₂ hIL hI₀) (hn'.at' fun o e => hk₂ _ o (by simpa using hCI) e) (news_but N' hk₂ fun p hp => by
        rcases List.mem_cons.mp hp with rfl | hp
        · exact hDI
        · exact offI p hp) (fun _ _ _ _ _ _ => trivial)
  exact start2_in loop (W.self 0 _ _ _ hst loop)
end
theorem freshComp2b : True := by
  w_top off
  k_with_none
  exact trivial
section
open PyProof.Rows.LCg
/-- what the inner for's source must be, and what a turn of it does -/
def Src2In (prog : Program) (w : World) (A : Around) (h₀ : Heap) (L : Addr) (m : Str → Option Value) (env : Env) (ct elt : PySem.Expr) (x1 x2 : Str) (scope : Scope) (cl : List (Str × Addr)) (I : Addr) (oI : Obj) (C : Addr) (oC : Obj) (D : Addr) (v1 : Value) (ys : List Value) (news : List (Addr × Obj)) (R' : List Value → Prop) (s₀ : Shared) (x : Value) (s₃ : Shared) : Prop :=
  ∃ (r : Addr) (a b : Int) (t u v : Tok) (n : Nat) (h : Heap) (tk : Nat) (Rr : Nat → List Value → Prop), x = .ref r ∧ s₃ = { s₀ with heap := h, toks := tk } ∧ Fr h₀ L h m ∧ News h₀ L h ((I, oI) :: (C, oC) :: (D, lst ys) :: news) ∧ IsRange h r a b 1 t u v ∧ Builtin.Range.small a b 1 = true ∧ Builtin.Range.rangeSize a b 1 = (n : Int) ∧ ys.length + n ≤ sizeLine ∧ Rr 0 ys ∧ (∀ ys', Rr n ys' → R' ys') ∧
    ∀ j ys' I2 oI2 oC' m₃ g tk' t2 (E' : Value → Shared → Prop), j < n → Rr j ys' → NsObj oC' m₃ → m₃ x1 = some v1 → m₃ x2 = some (.int (a + (j : Int)) t2) → Fr h₀ L g m → News h₀ L g ((I2, oI2) :: (C, oC') :: (D, lst ys') :: (I, oI) :: news) → Off3 I2 C D ((I, oI) :: news) → ((@Ne Nat I2 C) ∧ (@Ne Nat I2 D) ∧ (@Ne Nat C D)) →
      wpAny (model prog w) A (isTrue ct (compEnvC scope cl C env) (eval ct (compEnvC scope cl C env))) (fun ok s' => if ok = true then wpAny (model prog w) A (eval elt (compEnvC scope cl C env)) (CompEnd h₀ L m { s₀ with heap := g, toks := tk' } I2 oI2 C oC' D (lst ys') (fun _ => True) (MyEl ((I, oI) :: news) (Rr (j + 1)) ys')) E' s'
        else CompEnd h₀ L m { s₀ with heap := g, toks := tk' } I2 oI2 C oC' D (lst ys') (fun _ => True) (fun _ news' => MyNo ((I, oI) :: news) (Rr (j + 1)) ys' news') Value.none s') E' { s₀ with heap := g, toks := tk' }
/-- what the outer for's source must be, and what a turn of it does -/
def Src2 (prog : Program) (w : World) (A : Around) (h₀ : Heap) (L : Addr) (m : Str → Option Value) (env : Env) (i2 ct elt : PySem.Expr) (x1 x2 : Str) (scope : Scope) (cl : List (Str × Addr)) (y : Str) (Q : Flow → Shared → Prop) (xv : Value) (s₁ : Shared) : Prop :=
  ∃ (r : Addr) (a b : Int) (t u v : Tok) (n : Nat) (news : List (Addr × Obj)) (R1 : Nat → List Value → Prop), xv = .ref r ∧ A.handled = none ∧ Fr h₀ L s₁.heap m ∧ News h₀ L s₁.heap news ∧ IsRange s₁.heap r a b 1 t u v ∧ Builtin.Range.small a b 1 = true ∧ Builtin.Range.rangeSize a b 1 = (n : Int) ∧ R1 0 [] ∧
    (∀ g₀ i ys I oI C oC D m₂ h tk t1 (E' : Value → Shared → Prop), i < n → R1 i ys → NsObj oC m₂ → m₂ x1 = some (.int (a + (i : Int)) t1) → Fr h₀ L h m → News h₀ L h ((I, oI) :: (C, oC) :: (D, lst ys) :: news) → Off3 I C D news → ((@Ne Nat I C) ∧ (@Ne Nat I D) ∧ (@Ne Nat C D)) →
      wpAny (model prog w) A (eval i2 (compEnvC scope cl C env)) (Src2In prog w A h₀ L m env ct elt x1 x2 scope cl I oI C oC D (.int (a + (i : Int)) t1) ys news (R1 (i + 1)) { s₁ with heap := g₀ }) E' { s₁ with heap := h, toks := tk }) ∧
    ∀ ys, R1 n ys → FinA h₀ L m s₁ y Q ys news
variable {prog : Program} {w : World} {A : Around} {E : Value → Shared → Prop} {s : Shared}
theorem block2 {h₀ : Heap} {L : Addr} {m : Str → Option Value} {env : Env} {elt i1 i2 ct : PySem.Expr} {x1 x2 : Str} {px1 px2 pos : Pos} {scope : Scope} {cl : List (Str × Addr)} {r : Addr} {news : List (Addr × Obj)} {a b : Int} {t u v : Tok} {n : Nat} (R1 : Nat → List Value → Prop) {RR : Value → Addr → Result → Shared → Prop}
    (hfs : ∀ env' x, foldedSetIterable i2 env' x = pure x) (hA : A.handled = none) (hcell : ∀ y ∈ scope.names, y.2 ≠ .cell) (hkind : scope.kind = .function) (hx1 : scope.names.lookup x1 = some .local) (hx2 : scope.names.lookup x2 = some .local) (hx12 : x1 ≠ x2)
    (F : Fr h₀ L s.heap m) (N : News h₀ L s.heap news) (hr : IsRange s.heap r a b 1 t u v) (hsm : Builtin.Range.small a b 1 = true) (hsz : Builtin.Range.rangeSize a b 1 = (n : Int)) (h0 : R1 0 [])
    (turn : ∀ g₀ i ys I oI C oC D m₂ h tk t1 (E' : Value → Shared → Prop), i < n → R1 i ys → NsObj oC m₂ → m₂ x1 = some (.int (a + (i : Int)) t1) → Fr h₀ L h m → News h₀ L h ((I, oI) :: (C, oC) :: (D, lst ys) :: news) → Off3 I C D news → ((@Ne Nat I C) ∧ (@Ne Nat I D) ∧ (@Ne Nat C D)) →
      wpAny (model prog w) A (eval i2 (compEnvC scope cl C env)) (Src2In prog w A h₀ L m env ct elt x1 x2 scope cl I oI C oC D (.int (a + (i : Int)) t1) ys news (R1 (i + 1)) { s with heap := g₀ }) E' { s with heap := h, toks := tk })
    (hRR : ∀ D C h tk m' ys, Fr h₀ L h m → News h₀ L h ((D, lst ys) :: news) → Off1 D news → h.Ns C m' → h₀.get? C = none → h₀.get? D = none → C ≠ L → D ≠ L → C ≠ D → (∀ p ∈ news, p.1 ≠ C) → R1 n ys → RR (.ref D) C (.ok .next) { s with heap := h, toks := tk }) :
    wpAny (model prog w) A (pyIter (.ref r)) (fun it s₂ => wpAny (model prog w) A (newList []) (fun acc s₃ => wpAny (model prog w) A (newFunctionEnv scope env.globals cl [] env.qual none .none (some env)) (fun cenv s₄ =>
      codeAny (model prog w) A (.compStart (.ListComp elt [⟨.Name x1 px1, i1, [], 0⟩, ⟨.Name x2 px2, i2, [ct], 0⟩] scope pos) 0 it acc { cenv with scope := relabel scope env }) (RR acc cenv.locals) s₄) E s₃) E s₂) E s := by
  refine wpAny_pyIter_range hr hsm ?_
  generalize hit : ({ cls := .type "range_iterator", data := .fields #[rawInt a, rawInt (Builtin.Range.rangeSize a b 1), rawInt 1] } : Obj) = itO
  refine wpAny_newObj_type (wpAny_newFunctionEnv hcell (by intro y hy; simp at hy) (fun h₁ hns₁ hsb₁ => ?_) hkind)
  dsimp only at hns₁ hsb₁ ⊢
  generalize hH2 : (s.heap.push itO).push { cls := .type "list", dict := none, data := .seq ([] : List Value).toArray } = H2 at hns₁ hsb₁ ⊢
  have hI1 : (s.heap.push itO).objs.size = s.heap.objs.size + 1 := Heap.size_push ..
  have hC : H2.objs.size = s.heap.objs.size + 2 := by rw [← hH2, Heap.size_push, hI1]
  have below : ∀ q, q < s.heap.objs.size → q ≠ H2.objs.size ∧ q ≠ (s.heap.push itO).objs.size ∧ q ≠ s.heap.objs.size := fun q hq => ⟨by rw [hC]; omega, by rw [hI1]; omega, by omega⟩
  have hIC : s.heap.objs.size ≠ H2.objs.size := by rw [hC]; omega
  have hDC : (s.heap.push itO).objs.size ≠ H2.objs.size := by rw [hC, hI1]; omega
  have hID : s.heap.objs.size ≠ (s.heap.push itO).objs.size := by rw [hI1]; omega
  have old : ∀ q o, s.heap.get? q = some o → h₁.get? q = some o := fun q o e => hsb₁.extBut q o (below q (Heap.lt_size e)).1 (Heap.get?_push_of_some _ (hH2 ▸ Heap.get?_push_of_some _ (Heap.get?_push_of_some _ e)))
  have hacc : h₁.get? (s.heap.push itO).objs.size = some (lst []) := hsb₁.extBut _ _ hDC (Heap.get?_push_of_some _ (hH2 ▸ Heap.get?_push_size _ rfl))
  have hst₁ : IsRangeIter h₁ s.heap.objs.size (a + ((0 : Nat) : Int) * 1) ((n : Int) - ((0 : Nat) : Int)) 1 := by
    refine hsb₁.extBut _ _ hIC (Heap.get?_push_of_some _ (hH2 ▸ Heap.get?_push_of_some _ ?_))
    subst hit
    rw [hsz]
    simpa using Heap.get?_push_size _ rfl
  have fresh : ∀ q, s.heap.objs.size ≤ q → s.heap.get? q = none := fun q hq => by
    cases e : s.heap.get? q with
    | none => rfl
    | some o' => exact absurd (Heap.lt_size e) (Nat.not_lt.mpr hq)
  have fresh₀ : ∀ q, s.heap.objs.size ≤ q → h₀.get? q = none := fun q hq => by
    cases e : h₀.get? q with
    | none => rfl
    | some o' => have := F.keep q o' e; rw [fresh q hq] at this; cases this
  have hI₀ : h₀.get? s.heap.objs.size = none := fresh₀ _ (Nat.le_refl _)
  have hD₀ : h₀.get? (s.heap.push itO).objs.size = none := fresh₀ _ (by rw [hI1]; omega)
  have hC₀ : h₀.get? H2.objs.size = none := fresh₀ _ (by rw [hC]; omega)
  have hLlt : L < s.heap.objs.size := F.ns.lt
  have hCL : H2.objs.size ≠ L := Ne.symm (below L hLlt).1
  have hDL : (s.heap.push itO).objs.size ≠ L := Ne.symm (below L hLlt).2.1
  have hIL : L ≠ s.heap.objs.size := (below L hLlt).2.2
  have offp : ∀ p ∈ news, p.1 ≠ s.heap.objs.size ∧ p.1 ≠ H2.objs.size ∧ p.1 ≠ (s.heap.push itO).objs.size := fun p hp => by
    have := below _ (Heap.lt_size (N p hp).1)
    exact ⟨this.2.2, this.1, this.2.1⟩
  have off₀ : Off3 s.heap.objs.size H2.objs.size (s.heap.push itO).objs.size news := Off3.of offp
  have W := range_walks (prog := prog) (w := w) (I := s.heap.objs.size) hA a n
  have loop : ∀ s₃ : Shared, s₃ = { s with heap := h₁, toks := s.toks + ([] : List (Str × Value)).length } →
      codeAny (model prog w) A (.compLoop (.ListComp elt [⟨.Name x1 px1, i1, [], 0⟩, ⟨.Name x2 px2, i2, [ct], 0⟩] scope pos) 0 (.ref s.heap.objs.size) (.ref (s.heap.push itO).objs.size) (compEnvC scope cl H2.objs.size env))
        (RR (.ref (s.heap.push itO).objs.size) H2.objs.size) s₃ := by
    rintro s₃ rfl
    refine loop2_out (hs := fun x => hfs _ x)
      (fun k s' => ∃ h' tk i ys m', s' = { s with heap := h', toks := tk } ∧ i ≤ n ∧ k = n + 1 - i ∧ IsRangeIter h' s.heap.objs.size (a + (i : Nat) * 1) ((n : Int) - (i : Nat)) 1 ∧ Fr h₀ L h' m ∧ h'.Ns H2.objs.size m' ∧ News h₀ L h' (((s.heap.push itO).objs.size, lst ys) :: news) ∧ R1 i ys) ?_ (n + 1)
      ⟨h₁, _, 0, [], _, rfl, Nat.zero_le _, rfl, hst₁, F.keeps old, hns₁, fun p hp => ?_, h0⟩
    · rintro k s' ⟨h', tk, i, ys, m', rfl, hi, rfl, hst', F', hn', N', hR'⟩
      by_cases hlt : i < n
      · refine W.item i _ _ _ hlt hst' fun v h₂ tk₂ hPv hst₂ hk₂ => ?_
        obtain ⟨t1, rfl⟩ := hPv
        refine wpAny_assign_Name (wpAny_storeName_local (lookup_relabel_local hx1) (hn'.at' fun o e => hk₂ _ o (by simpa using Ne.symm hIC) e) (fun h₃ hn₃ hs₃ => ?_) (by simp [compEnvC, relabel, hkind]))
        have hst₃ : IsRangeIter h₃ s.heap.objs.size (a + ((i + 1 : Nat) : Int) * 1) ((n : Int) - ((i + 1 : Nat) : Int)) 1 := W.frame (i + 1) h₂ h₃ hst₂ fun q hq o e => hs₃.extBut q o (fun z => hIC (by rw [← List.mem_singleton.mp hq]; exact z)) e
        have heI : h₃.get? s.heap.objs.size = some _ := hst₃
        obtain ⟨oC, heC, hoC⟩ := ns_obj hn₃
        have F₃ : Fr h₀ L h₃ m := (fr_but F' hk₂ hIL hI₀).change hs₃ hCL hC₀
        have N₂ : News h₀ L h₂ (((s.heap.push itO).objs.size, lst ys) :: news) := news_but N' hk₂ fun p hp => by
          rcases List.mem_cons.mp hp with rfl | hp
          · exact Ne.symm hID
          · exact (offp p hp).1
        have N₃ : News h₀ L h₃ ((s.heap.objs.size, _) :: (H2.objs.size, oC) :: ((s.heap.push itO).objs.size, lst ys) :: news) := fun p hp => by
          rcases List.mem_cons.mp hp with rfl | hp
          · exact ⟨heI, Ne.symm hIL, hI₀⟩
          · rcases List.mem_cons.mp hp with rfl | hp
            · exact ⟨heC, hCL, hC₀⟩
            · have z := N₂ p hp
              refine ⟨hs₃.extBut _ _ ?_ z.1, z.2⟩
              rcases List.mem_cons.mp hp with rfl | hp
              · exact hDC
              · exact (offp p hp).2.1
        refine wpAny_mono (turn s.heap i ys _ _ _ oC _ _ h₃ _ t1 _ hlt hR' hoC (by simp) F₃ N₃ off₀ ⟨hIC, hID, Ne.symm hDC⟩) (fun x s₃ hx => ?_) fun _ _ e => e
        obtain ⟨r2, a2, b2, t', u', v', n2, g, tkg, Rr, rfl, rfl, F₄, N₄, hr2, hsm2, hsz2, hle2, hR0, hRn, turn2⟩ := hx
        have zC := (N₄ (H2.objs.size, oC) (List.mem_cons_of_mem _ List.mem_cons_self)).1
        have N₅ : News h₀ L g (((s.heap.push itO).objs.size, lst ys) :: (s.heap.objs.size, _) :: news) := fun p hp => by
          rcases List.mem_cons.mp hp with rfl | hp
          · exact N₄ _ (List.mem_cons_of_mem _ (List.mem_cons_of_mem _ List.mem_cons_self))
          · rcases List.mem_cons.mp hp with rfl | hp
            · exact N₄ _ List.mem_cons_self
            · exact N₄ _ (List.mem_cons_of_mem _ (List.mem_cons_of_mem _ (List.mem_cons_of_mem _ hp)))
        refine inner2 (s := { s with heap := g, toks := tkg }) Rr hA hkind hx2 hx12 F₄ (hoC.ns zC) (by simp) N₅ hC₀ hCL hDC (fun p hp => by
          rcases List.mem_cons.mp hp with rfl | hp
          · exact ⟨hIC, hID⟩
          · exact (offp p hp).2) hr2 hsm2 hsz2 hle2 hR0 (fun j ys' I2 oI2 oC' m₃ g' tk' t2 E' hj hRj hoC' hm1 hm2 Fg Ng offg neg => turn2 j ys' I2 oI2 oC' m₃ g' tk' t2 E' hj hRj hoC' hm1 hm2 Fg Ng offg neg) ?_
        intro ys' h₆ tk₆ m₆ hRe hly F₆ hn₆ N₆ _
        refine ⟨n + 1 - (i + 1), by omega, h₆, tk₆, i + 1, ys', m₆, rfl, hlt, rfl, (N₆ _ (List.mem_cons_of_mem _ List.mem_cons_self)).1, F₆, hn₆, fun p hp => ?_, hRn ys' hRe⟩
        rcases List.mem_cons.mp hp with rfl | hp
        · exact N₆ _ List.mem_cons_self
        · exact N₆ _ (List.mem_cons_of_mem _ (List.mem_cons_of_mem _ hp))
      · obtain rfl : i = n := Nat.le_antisymm hi (Nat.not_lt.mp hlt)
        refine W.done _ _ _ hst' fun h₂ tk₂ hk₂ => ?_
        exact hRR _ _ h₂ tk₂ _ ys (fr_but F' hk₂ hIL hI₀) (news_but N' hk₂ fun p hp => by
          rcases List.mem_cons.mp hp with rfl | hp
          · exact Ne.symm hID
          · exact (offp p hp).1) off₀.one (hn'.at' fun o e => hk₂ _ o (by simpa using Ne.symm hIC) e) hC₀ hD₀ hCL hDL (Ne.symm hDC) (fun p hp => (offp p hp).2.1) hR'
    · rcases List.mem_cons.mp hp with rfl | hp
      · exact ⟨hacc, hDL, hD₀⟩
      · exact ⟨old _ _ (N p hp).1, (N p hp).2⟩
  exact codeAny_compStart_list (loop _ rfl) (W.self 0 _ _ _ hst₁ (loop _ rfl))
theorem Assign_comp2 {h₀ : Heap} {L : Addr} {m : Str → Option Value} {env : Env} {elt i1 i2 ct : PySem.Expr} {x1 x2 y : Str} {px1 px2 py pos spos : Pos} {scope : Scope} {cl : List (Str × Addr)} {Q : Flow → Shared → Prop}
    (_F₀ : Fr h₀ L s.heap m) (hLe : env.locals = L)
    (hsw : swapsWith (.ListComp elt [⟨.Name x1 px1, i1, [], 0⟩, ⟨.Name x2 px2, i2, [ct], 0⟩] scope pos) (some (.Name y py)) spos.line env = pure true)
    (hclos : closureFor scope env = pure cl) (hcell : ∀ z ∈ scope.names, z.2 ≠ .cell) (hkind : scope.kind = .function)
    (hnames : ∀ z ∈ scope.names, z.2 = .local → scope.names.lookup z.1 = some .local) (hx1 : scope.names.lookup x1 = some .local) (hx2 : scope.names.lookup x2 = some .local) (hx12 : x1 ≠ x2)
    (hy : env.kindOf y = some .local) (hp : (env.scope.kind == .class || (env.scope.kind == .module && env.locals != env.globals)) = false)
    (h : wpAny (model prog w) A (eval i1 env) (Src2 prog w A h₀ L m env i2 ct elt x1 x2 scope cl y Q) E s)
    (hs : ∀ x, foldedSetIterable i1 env x = pure x := by intro _; rfl) (hfs : ∀ env' x, foldedSetIterable i2 env' x = pure x := by intro _ _; rfl) :
    wpAny (model prog w) A (exec (.Assign [.Name y py] (.ListComp elt [⟨.Name x1 px1, i1, [], 0⟩, ⟨.Name x2 px2, i2, [ct], 0⟩] scope pos) spos) env) Q E s := by
  subst hLe
  rw [exec_Assign_Name_used _ _ _ _ hsw]
  refine wpAny_bind (wpAny_standAt (wpAny_bind ?_))
  show wpAny _ A (do let _ ← comprehension (.ListComp elt [⟨.Name x1 px1, i1, [], 0⟩, ⟨.Name x2 px2, i2, [ct], 0⟩] scope pos) scope env _ (newList []) false (eval i1 env) (some (assign (.Name y py) env))) _ _ s
  refine wpAny_bind (wpAny_mono (wpAny_comprehension_free (use := some (assign (.Name y py) env)) (Q := fun _ s' => Q .next s') rfl hs hclos hkind hnames
    (wpAny_mono h (fun xv s₁ h₁ => ?_) fun _ _ e => e)) (fun _ s' hq => wpAny_pure (wpAny_pure hq)) fun _ _ e => e)
  obtain ⟨r, a, b, t, u, v, n, news, R1, rfl, hh, F, N, hr, hsm, hn, h0, turn, fin⟩ := h₁
  refine block2 R1 hfs hh hcell hkind hx1 hx2 hx12 F N hr hsm hn h0 turn ?_
  intro D C h' tk m' ys F' N' o1 hn hC₀ hD₀ hCL hDL hCD offC hR
  show wpAny _ A (assign (.Name y py) env (.ref D)) _ _ _
  refine wpAny_assign_Name (wpAny_storeName_local hy F'.ns (fun h₂ hn₂ hs₂ => ?_) hp)
  have hL₀ : h₀.get? env.locals = none := Heap.get?_none_of_le F'.above
  have F₂ : Fr h₀ env.locals h₂ (fun z => if z = y then some (.ref D) else m z) := ⟨hn₂, fun b o e => hs₂.extBut b o (fun q => by rw [q, hL₀] at e; cases e) (F'.keep b o e), F'.above⟩
  refine ⟨m', hn.sameBut hs₂ hCL, fun h'' hs'' => fin ys hR D h'' _ (F₂.change hs'' hCL hC₀) (fun p hp => ?_) o1⟩
  have z : h₂.get? p.1 = some p.2 := hs₂.extBut _ _ (N' p hp).2.1 (N' p hp).1
  refine ⟨hs''.extBut _ _ ?_ z, (N' p hp).2⟩
  rcases List.mem_cons.mp hp with rfl | hp
  · exact Ne.symm hCD
  · exact offC p hp
end
theorem freshUnits : True := by
  w_top off
  k_with_none
  exact trivial
theorem unitsIn_step {b : Int} {k : Nat} {l : List Int} (h : unitsIn b (k + 1) = some l) : ∃ l0 u, unitsIn b k = some l0 ∧ invF (k : Int) b = some u ∧ (u = none → l = l0) ∧ (∀ v, u = some v → l = l0 ++ [1]) := by
  unfold unitsIn at h
  cases e1 : unitsIn b k with
  | none => rw [e1] at h; cases h
  | some l0 =>
    rw [e1] at h
    simp only [Option.bind_some] at h
    cases e2 : invF (k : Int) b with
    | none => rw [e2] at h; cases h
    | some u =>
      rw [e2] at h
      simp only [Option.bind_some] at h
      cases u with
      | none => exact ⟨l0, none, rfl, rfl, (fun _ => (Option.some.inj h).symm), (fun v e => by cases e)⟩
      | some v => exact ⟨l0, some v, rfl, rfl, (fun e => by cases e), (fun _ _ => (Option.some.inj h).symm)⟩
theorem unitsIn_pre {b : Int} : ∀ {k : Nat} {l : List Int}, unitsIn b k = some l → ∀ j, j ≤ k → ∃ l', unitsIn b j = some l'
  | 0, l, h, j, hj => by obtain rfl : j = 0 := by omega
                         exact ⟨l, h⟩
  | k + 1, l, h, j, hj => by
    by_cases e : j = k + 1
    · subst e; exact ⟨l, h⟩
    · obtain ⟨l0, u, h0, _⟩ := unitsIn_step h
      exact unitsIn_pre h0 j (by omega)
theorem unitsF_step {k : Nat} {l : List Int} (h : unitsF (k + 1) = some l) : ∃ l0 l', unitsF k = some l0 ∧ unitsIn ((k : Int) + 1) (k + 1) = some l' ∧ l = l0 ++ l' := by
  unfold unitsF at h
  cases e1 : unitsF k with
  | none => rw [e1] at h; cases h
  | some l0 =>
    rw [e1] at h
    simp only [Option.bind_some] at h
    cases e2 : unitsIn ((k : Int) + 1) (k + 1) with
    | none => rw [e2] at h; cases h
    | some l' =>
      rw [e2] at h
      exact ⟨l0, l', rfl, rfl, (Option.some.inj h).symm⟩
theorem unitsF_pre : ∀ {k : Nat} {l : List Int}, unitsF k = some l → ∀ j, j ≤ k → ∃ l', unitsF j = some l'
  | 0, l, h, j, hj => by obtain rfl : j = 0 := by omega
                         exact ⟨l, h⟩
  | k + 1, l, h, j, hj => by
    by_cases e : j = k + 1
    · subst e; exact ⟨l, h⟩
    · obtain ⟨l0, l', h0, _⟩ := unitsF_step h
      exact unitsF_pre h0 j (by omega)
def RO (i : Nat) (ys : List Value) : Prop := ∃ l, unitsF i = some l ∧ ys.length = l.length ∧ ys.length ≤ 10 * i
def RI (i base : Nat) (j : Nat) (ys : List Value) : Prop := ∃ l, unitsIn ((i : Int) + 1) j = some l ∧ ys.length = base + l.length ∧ ys.length ≤ base + j
theorem RO_next {i : Nat} {ys ys' : List Value} {l1 : List Int} (hi : i < 10) (h1 : unitsF (i + 1) = some l1) (h : RO i ys) (h' : RI i ys.length (i + 1) ys') : RO (i + 1) ys' := by
  obtain ⟨l, e1, e2, e3⟩ := h
  obtain ⟨l', e4, e5, e6⟩ := h'
  obtain ⟨l0, l2, e7, e8, e9⟩ := unitsF_step h1
  rw [e1] at e7; cases e7
  rw [e4] at e8; cases e8
  refine ⟨l1, h1, ?_, by omega⟩
  rw [e9, List.length_append]
  omega
theorem RI_yes {i base j : Nat} {ys : List Value} {y : Value} {v : Int} {l : List Int} (h : RI i base j ys) (hj : unitsIn ((i : Int) + 1) (j + 1) = some l) (hv : invF (j : Int) ((i : Int) + 1) = some (some v)) : RI i base (j + 1) (ys ++ [y]) := by
  obtain ⟨l0, e1, e2, e3⟩ := h
  obtain ⟨l1, u, h1, h2, h3, h4⟩ := unitsIn_step hj
  rw [e1] at h1; cases h1
  rw [hv] at h2; cases h2
  have := h4 v rfl
  refine ⟨l, hj, ?_, ?_⟩
  · rw [this, List.length_append, List.length_append, List.length_singleton, List.length_singleton]; omega
  · rw [List.length_append, List.length_singleton]; omega
theorem RI_no {i base j : Nat} {ys : List Value} {l : List Int} (h : RI i base j ys) (hj : unitsIn ((i : Int) + 1) (j + 1) = some l) (hv : invF (j : Int) ((i : Int) + 1) = some none) : RI i base (j + 1) ys := by
  obtain ⟨l0, e1, e2, e3⟩ := h
  obtain ⟨l1, u, h1, h2, h3, h4⟩ := unitsIn_step hj
  rw [e1] at h1; cases h1
  rw [hv] at h2; cases h2
  have := h3 rfl
  exact ⟨l, hj, by rw [this]; omega, by omega⟩
theorem my_last {prog : Program} {w : World} {A : Around} {E : Value → Shared → Prop} {s : Shared} {h₀ : Heap} {L l : Addr} {value slice : PySem.Expr} {news tl : List (Addr × Obj)} {vs : List Value} {row : List P2} {nr : Nat} {u : Tok} {x1 x2 : Int} {Q : Value → Shared → Prop} (N : News h₀ L s.heap news) (hm : (l, PySem.W.listOf vs.toArray nr) ∈ news) (hd : DatAll tl vs (row.map p2d))
    (hx : row.getLast? = some (x1, x2)) (h : ∀ D t u n, (D, o2 x1 x2 t u n) ∈ tl → Q (.ref D) s)
    (hs : subscripted slice false (.ref l) (.int (-1) u) = operate [.ref l, .int (-1) u] (getItem (.ref l) (.int (-1) u)) := by with_unfolding_all rfl) :
    wpAny (model prog w) A (subscriptTail value slice (.ref l) (.int (-1) u)) Q E s := by
  have hl : s.heap.IsList l vs.toArray := ⟨_, (N _ hm).1, rfl, nr, rfl⟩
  have hll := hd.length
  rw [List.length_map] at hll
  rw [List.getLast?_eq_getElem?] at hx
  have hlt := (List.getElem?_eq_some_iff.mp hx).1
  have hv : vs[row.length - 1]? = some vs[row.length - 1] := List.getElem?_eq_getElem (by omega)
  obtain ⟨D, a, b, t, u', n, e1, e2, e3⟩ := row_at hd hv
  rw [hx] at e3
  cases e3
  refine tail_any hl.typeIs slot_list_getitem.lookup (wpAny_getItem_list_neg hl (by decide) (by rw [List.size_toArray]; omega) (by decide) (x := .ref D) ?_ (h D t u' n e2)) hs
  rw [List.size_toArray, show ((-1 : Int) + (vs.length : Int)).toNat = row.length - 1 by omega, List.getElem?_toArray, hv, e1]
theorem freshRev : True := by
  w_top off
  k_with_none
  exact trivial
section
open PyProof.Rows.LCg
variable {prog : Program} {w : World} {A : Around} {E : Value → Shared → Prop} {s : Shared} {h₀ : Heap} {L : Addr} {m : Str → Option Value} {env : Env}
theorem my_restU {elt : PySem.Expr} {x : Str} {scope : Scope} {cl : List (Str × Addr)} {S : List (Addr × Obj) → Prop} {P : Nat → Value → Prop} {Fin : List Value → List (Addr × Obj) → Prop} {news : List (Addr × Obj)} {n : Nat} (R : Nat → List Value → List (Addr × Obj) → Prop) (h0 : R 0 [] news)
    (turn : ∀ i v ys nw I oI C oC D m₂ h tk (E' : Value → Shared → Prop), i < n → P i v → R i ys nw → NsObj oC m₂ → m₂ x = some v → Fr h₀ L h m → News h₀ L h ((I, oI) :: (C, oC) :: (D, lst ys) :: nw) → Off3 I C D nw → ((@Ne Nat I C) ∧ (@Ne Nat I D) ∧ (@Ne Nat C D)) →
      wpAny (model prog w) A (eval elt (compEnvC scope cl C env)) (CompEnd h₀ L m { s with heap := h, toks := tk } I oI C oC D (lst ys) S (fun y nw' => R (i + 1) (ys ++ [y]) nw')) E' { s with heap := h, toks := tk })
    (fin : ∀ ys nw, R n ys nw → Fin ys nw) : CompRest prog w A h₀ L m env elt x scope cl s S P Fin n 0 [] news := by
  have key : ∀ (j i : Nat) (ys : List Value) (nw : List (Addr × Obj)), i + j = n → R i ys nw → CompRest prog w A h₀ L m env elt x scope cl s S P Fin j i ys nw := by
    intro j
    induction j with
    | zero =>
      intro i ys nw hi hy
      have e : i = n := by omega
      subst e
      exact CompRest.zero (fin ys nw hy)
    | succ j ih =>
      intro i ys nw hi hy
      refine CompRest.succ ?_
      intro v I oI C oC D m₂ h tk E' hv hC hx F N off ne
      refine wpAny_mono (turn i v ys nw I oI C oC D m₂ h tk E' (by omega) hv hy hC hx F N off ne) (fun y s₂ hq => ?_) fun _ _ e => e
      obtain ⟨h', tk', nw', e, F', N', off', hS, hR⟩ := hq
      exact ⟨h', tk', nw', e, F', N', off', hS, ih (i + 1) _ _ (by omega) hR⟩
  exact key n 0 [] news (by omega) h0
theorem my_restV {elt : PySem.Expr} {x : Str} {scope : Scope} {cl : List (Str × Addr)} {S : List (Addr × Obj) → Prop} {P : Nat → Value → Prop} {Fin : List Value → List (Addr × Obj) → Prop} {news : List (Addr × Obj)} {n : Nat} (R : Nat → List Value → List (Addr × Obj) → Prop) (h0 : R 0 [] [])
    (turn : ∀ i v ys tl2 I oI C oC D m₂ h tk (E' : Value → Shared → Prop), i < n → P i v → R i ys tl2 → NsObj oC m₂ → m₂ x = some v → Fr h₀ L h m → News h₀ L h ((I, oI) :: (C, oC) :: (D, lst ys) :: (tl2 ++ news)) → Off3 I C D (tl2 ++ news) → ((@Ne Nat I C) ∧ (@Ne Nat I D) ∧ (@Ne Nat C D)) →
      wpAny (model prog w) A (eval elt (compEnvC scope cl C env)) (CompEnd h₀ L m { s with heap := h, toks := tk } I oI C oC D (lst ys) S (fun y nw' => ∃ tl3, nw' = tl3 ++ news ∧ R (i + 1) (ys ++ [y]) tl3)) E' { s with heap := h, toks := tk })
    (fin : ∀ ys tl2, R n ys tl2 → Fin ys (tl2 ++ news)) : CompRest prog w A h₀ L m env elt x scope cl s S P Fin n 0 [] news :=
  my_restU (fun i ys nw => ∃ tl2, nw = tl2 ++ news ∧ R i ys tl2) ⟨[], rfl, h0⟩ (fun i v ys nw I oI C oC D m₂ h tk E' hi hv hR hC hx F N off ne => by
    obtain ⟨tl2, rfl, hR⟩ := hR
    exact turn i v ys tl2 I oI C oC D m₂ h tk E' hi hv hR hC hx F N off ne) (fun ys nw hR => by obtain ⟨tl2, rfl, hR⟩ := hR; exact fin ys tl2 hR)
def SrcRev (prog : Program) (w : World) (A : Around) (h₀ : Heap) (L : Addr) (m : Str → Option Value) (env : Env) (elt : PySem.Expr) (x : Str) (scope : Scope) (cl : List (Str × Addr)) (Q : Value → Shared → Prop) (xv : Value) (s₁ : Shared) : Prop :=
  ∃ (I l : Addr) (vs : List Value) (nn : Nat) (news : List (Addr × Obj)), xv = .ref I ∧ A.handled = none ∧ Fr h₀ L s₁.heap m ∧ News h₀ L s₁.heap ((I, revObj l ((vs.length : Int) - 1)) :: news) ∧ (l, PySem.W.listOf vs.toArray nn) ∈ news ∧ (∀ p ∈ news, p.1 ≠ I) ∧ vs.length ≤ sizeLine ∧
    CompRest prog w A h₀ L m env elt x scope cl s₁ (fun nw => (l, PySem.W.listOf vs.toArray nn) ∈ nw) (fun i v => vs[vs.length - 1 - i]? = some v) (FinE h₀ L m s₁ Q) vs.length 0 [] news
theorem ListComp_rev {elt iter : PySem.Expr} {x : Str} {px : Pos} {scope : Scope} {cl : List (Str × Addr)} {pos : Pos} {Q : Value → Shared → Prop} (_F₀ : Fr h₀ L s.heap m)
    (hclos : closureFor scope env = pure cl) (hcell : ∀ y ∈ scope.names, y.2 ≠ .cell) (hkind : scope.kind = .function)
    (hnames : ∀ y ∈ scope.names, y.2 = .local → scope.names.lookup y.1 = some .local) (hx : scope.names.lookup x = some .local)
    (h : wpAny (model prog w) A (eval iter env) (SrcRev prog w A h₀ L m env elt x scope cl Q) E s)
    (hs : ∀ x, foldedSetIterable iter env x = pure x := by intro _; rfl) :
    wpAny (model prog w) A (eval (.ListComp elt [⟨.Name x px, iter, [], 0⟩] scope pos) env) Q E s := by
  rw [eval_ListComp]
  refine wpAny_comprehension_free (use := none) rfl hs hclos hkind hnames (wpAny_mono h (fun xv s₁ h₁ => ?_) fun _ _ e => e)
  obtain ⟨I, l, vs, nn, news, rfl, hh, F, N, hl, off, hsz, R⟩ := h₁
  have zI := N _ List.mem_cons_self
  have hIt : s₁.heap.IsRevIter I l ((vs.length : Int) - 1) := ⟨_, zI.1, rfl, rfl⟩
  have N' : News h₀ L s₁.heap news := fun p hp => N p (List.mem_cons_of_mem _ hp)
  have hL : s₁.heap.IsList l vs.toArray := ⟨_, (N' _ hl).1, rfl, nn, rfl⟩
  refine wpAny_pyIter_revIter hIt ?_
  have W := Walks.listRev (prog := prog) (w := w) hh I l (off _ hl) vs.toArray
  simp only [List.size_toArray, List.getElem?_toArray] at W
  refine block_U W hsz (fun i h st => by obtain ⟨o, e, _⟩ := st.2.1; exact ⟨o, e⟩) (fun i h h' o nw st e e' k Nw hS => ?_) hcell hkind hx ⟨Nat.zero_le _, by simpa using hIt, hL⟩ (fun b hb => ?_)
    F N' (Ne.symm zI.2.1) zI.2.2 off hl R ?_
  · refine ⟨st.1, ?_, ⟨_, (Nw _ hS).1, rfl, nn, rfl⟩⟩
    obtain ⟨o', q, r⟩ := st.2.1
    rw [e] at q; cases q
    exact ⟨o, e', r⟩
  · rcases List.mem_cons.mp hb with rfl | hb
    · exact Heap.lt_size zI.1
    · rw [List.mem_singleton.mp hb]; exact Heap.lt_size (N' _ hl).1
  · intro D C h' tk m' ys news' F' N' o1 hn hC₀ hD₀ hCL hDL hCD offC fin
    refine ⟨m', hn, fun h'' hs'' => fin D h'' tk (F'.change hs'' hCL hC₀) (fun p hp => ?_) o1⟩
    refine ⟨hs''.extBut _ _ ?_ (N' p hp).1, (N' p hp).2⟩
    rcases List.mem_cons.mp hp with rfl | hp
    · exact Ne.symm hCD
    · exact offC p hp
end
theorem freshLaw : True := by
  w_top off
  k_with_none
  exact trivial
theorem my_sum {prog : Program} {w : World} {A : Around} {E : Value → Shared → Prop} {s : Shared} {h₀ : Heap} {L l : Addr} {m : Str → Option Value} {news : List (Addr × Obj)} {vs : List Value} {ns : List Int} {o : Obj} {c : Nat} {Q : Value → Shared → Prop} (hh : A.handled = none) (F : Fr h₀ L s.heap m) (N : News h₀ L s.heap news) (hm : (l, o) ∈ news) (ho : o.cls = .type "list") (hd : o.data = .seq vs.toArray c) (hi : IntsAre vs ns)
    (h : ∀ h' tk t', Fr h₀ L h' m → News h₀ L h' news → Q (.int ns.sum t') { s with heap := h', toks := tk }) : wpAny (model prog w) A (PySem.call (.builtin "sum") [.ref l]) Q E s :=
  PySem.W.sumK hh F N ⟨_, (N _ hm).1, ho, c, hd⟩ hi h
set_option maxRecDepth 100000 in
set_option maxHeartbeats 8000000 in
theorem law_t : PySem.Challenge.rw_xm0069_01.Holds := hd (by
  k_go0
  rename Glob _ _ _ _ _ _ _ _ => zz1
  rename TopE _ _ _ _ => zz2
  rename TopW _ _ _ => zz3
  rename Flt.MathXP _ _ _ => zz4
  rename LooseAre _ _ _ => zz5
  rename Tables _ _ _ _ => zz6
  clear zz1 zz2 zz3 zz4 zz5 zz6
  (all_goals try k_fold)
  k_with_none
  k_with "call ref" => ((with_reducible show wpAny _ _ (PySem.call (Value.ref 62) _) _ _ _); refine hold ?_)
  k_with "call ref" => ((with_reducible show wpAny _ _ (PySem.call (Value.ref 132) _) _ _ _); (k_dflt (refine' CallC.use ?k1 ?k2 ?k3 ?k4 ?k5 ?kK (draw0_c _ _ _ _ _ _ _ _ ?hi ?hle _ _ _ _ _ ?hm ?hm2 _ ?hSP ?hrest) ?kd ?ku ?_)); (case k1 => k_asm); (case k2 => k_asm); (case k3 => k_asm); (case k4 => k_asm); (case k5 => k_asm); (case kK => k_dflt (first | exact rfl | assumption)); (case hi => assumption); (case hle => (simp only [List.length_map, List.length_take]; omega)); (case hm => omega); (case hm2 => omega); (case hSP => k_ne); (case hrest => k_all); (case kd => first | exact Nat.le_of_ble_eq_true rfl | ktr_room); (case ku => first | exact Nat.le_of_ble_eq_true rfl | ktr_units); (rintro v nx h' tk' F' N' ⟨x0, t0, t', c2, hv, hx0, hy0, hn⟩); subst hn; subst hv; (try dsimp only); (try k_fold))
  k_with "call ref" => ((with_reducible show wpAny _ _ (PySem.call (Value.ref 132) _) _ _ _); (k_dflt (refine' CallC.use ?k1 ?k2 ?k3 ?k4 ?k5 ?kK (draw1_c _ _ _ _ _ _ _ _ ?hi ?hle _ _ _ _ _ ?hm ?hm2 _ ?hSP ?hrest) ?kd ?ku ?_)); (case k1 => k_asm); (case k2 => k_asm); (case k3 => k_asm); (case k4 => k_asm); (case k5 => k_asm); (case kK => k_dflt (first | exact rfl | assumption)); (case hi => assumption); (case hle => (simp only [List.length_map, List.length_take]; omega)); (case hm => omega); (case hm2 => omega); (case hSP => k_ne); (case hrest => k_all); (case kd => first | exact Nat.le_of_ble_eq_true rfl | ktr_room); (case ku => first | exact Nat.le_of_ble_eq_true rfl | ktr_units); (rintro v nx h' tk' F' N' ⟨x1, t1, t', c2, hv, hx1, hy1, hn⟩); subst hn; subst hv; (try dsimp only); (try k_fold))
  k_with "call ref" => ((with_reducible show wpAny _ _ (PySem.call (Value.ref 132) _) _ _ _); (k_dflt (refine' CallC.use ?k1 ?k2 ?k3 ?k4 ?k5 ?kK (draw2_c _ _ _ _ _ _ _ _ ?hi ?hle _ _ _ _ _ ?hm ?hm2 _ ?hSP ?hrest) ?kd ?ku ?_)); (case k1 => k_asm); (case k2 => k_asm); (case k3 => k_asm); (case k4 => k_asm); (case k5 => k_asm); (case kK => k_dflt (first | exact rfl | assumption)); (case hi => assumption); (case hle => (simp only [List.length_map, List.length_take]; omega)); (case hm => omega); (case hm2 => omega); (case hSP => k_ne); (case hrest => k_all); (case kd => first | exact Nat.le_of_ble_eq_true rfl | ktr_room); (case ku => first | exact Nat.le_of_ble_eq_true rfl | ktr_units); (rintro v nx h' tk' F' N' ⟨x2, t2, t', c2, hv, hx2, hy2, hn⟩); subst hn; subst hv; (try dsimp only); (try k_fold))
  k_steps
  unfold Hold
  obtain ⟨NN, r1, r2, row, times, units, out, eN, hN2, hN9, hr, hfar, hrl, htl, hturn, hunits, hlast, hlen, hmir, hsum, hbest, hlbest⟩ := facts x0 x1 x2 hx0 hy0 hx1 hy1 hx2 hy2
  rw [← eN] at hfar hturn hbest
  k_with_none
  k_with "call builtin:len" => refine hold ?_
  k_steps
  unfold Hold
  rename News _ _ _ _ => N1
  refine at_law N1 ?_
  intro Dt F0 T0 Dr vs us cf ct tl e1 e2 e3 e4 e5 e6 e7 e8 e9
  subst e1 e2 e3 e4 e5 e6 e7 e8 e9
  rename DatAll _ _ _ => hrow
  rename IntsAre _ times => hti
  have hvl := hrow.length
  rw [List.length_map] at hvl
  refine my_len N1 (by k_mem) rfl rfl hvl hrl ?_
  dsimp only
  k_with_none
  k_with "pyIter ref" => refine hold ?_
  try k_fold
  k_steps
  unfold Hold
  rename News _ _ _ _ => N2
  rename Fr _ _ _ _ => F2
  rename IsRange _ _ _ _ _ _ _ _ => rgX
  refine' my_range (σ := LS) (n := row.length - 1) (fun c => (c.D, o2 c.a c.b c.t c.u c.n) :: (F0, PySem.W.listOf vs.toArray cf) :: (T0, PySem.W.listOf us.toArray ct) :: (Dr, o2 r1 r2 _ _ _) :: tl) (fun c => [(Str.ofString "total", .ref c.D)]) (fun _ => True) [Str.ofString "one", Str.ofString "other", Str.ofString "undoes"] (fun i c => turnsF (2 + x0) (row.drop i) (c.a, c.b) = some (1, 1)) ⟨Dt, 0, 1, _, _, _⟩ ?hh rgX ?hsm ?hrs F2 N2 ?kn True.intro ?kk ?kp ?turn ?done
  case hh => rfl
  case hsm => exact small_one (by omega) (by omega) (by omega) (by omega)
  case hrs => (rw [rangeSize_nat]; congr 1; omega)
  case kk => (refine List.forall_mem_cons.mpr ⟨?hk1, List.forall_mem_nil _⟩; (case hk1 => with_unfolding_all rfl))
  case kn => exact List.forall_mem_cons.mpr ⟨by k_mem, List.forall_mem_cons.mpr ⟨by k_mem, List.forall_mem_cons.mpr ⟨by k_mem, List.forall_mem_cons.mpr ⟨by k_mem, fun p hp => (by repeat (first | exact hp | refine List.Mem.tail _ ?_))⟩⟩⟩⟩
  case kp => exact hturn
  case turn =>
    rintro i ⟨D, a, b, t, u, n⟩ t9 u9 h tk own hi hown - kInv kFr kNews
    dsimp only [FrX, kstB, envOf] at kFr
    dsimp only [o2, PySem.W.listOf, envOf] at kInv kNews hown
    simp only [List.cons_append] at kNews
    obtain ⟨a1, b1, c1, d1, tt1, tt2, hrow1, hrow2, hT, hTs⟩ := turnsF_step (by omega) kInv
    obtain ⟨hb, hq, hcm, uu, hinv, hb0, hd1, ⟨hba, hbb, hbc, hbd⟩, hadd⟩ := turnF_step hT
    have htl2 : ∀ p ∈ tl, p ∈ tl ++ own := fun p hp => List.mem_append_left _ hp
    clear N2 F2
    clear_value *
    k_with_none
    k_with "item" => ((with_reducible show wpAny _ _ (subscriptTail _ _ (Value.ref F0) _) _ _ _); rename News _ _ _ _ => N1; k_dflt (refine my_item (x1 := a1) (x2 := b1) N1 (by k_mem) hrow (by omega) (by omega) (by rw [show (0 + (i : Int)).toNat = i by omega]; exact hrow1) ?_); intro Dl tl' ul nl hDl; have hDl' := htl2 _ hDl; dsimp only [o2] at hDl'; try dsimp only)
    k_with "item" => ((with_reducible show wpAny _ _ (subscriptTail _ _ (Value.ref F0) _) _ _ _); rename News _ _ _ _ => N1; k_dflt (refine my_item (x1 := c1) (x2 := d1) N1 (by k_mem) hrow (by omega) (by omega) (by rw [show (0 + (i : Int) + 1).toNat = i + 1 by omega]; exact hrow2) ?_); intro Dh th uh nh hDh; have hDh' := htl2 _ hDh; dsimp only [o2] at hDh'; try dsimp only)
    k_with "mypost" => refine hold ?_
    try k_fold
    k_steps
    · exfalso
      omega
    · unfold Hold
      dsimp only [InvPostG]
      rename News _ _ _ _ => N1
      refine' js_end ⟨_, tt1, tt2, _, _, _⟩ ?F N1 ?ho ?hn ?hk ?hr ?ha True.intro hTs
      case F => assumption
      case hk => (refine List.forall_mem_cons.mpr ⟨?hk1, List.forall_mem_nil _⟩; (case hk1 => with_unfolding_all rfl))
      case hn => exact List.forall_mem_cons.mpr ⟨by k_mem, List.forall_mem_cons.mpr ⟨by k_mem, List.forall_mem_cons.mpr ⟨by k_mem, List.forall_mem_cons.mpr ⟨by k_mem, fun p hp => by repeat (first | exact List.mem_append_left _ hp | refine List.Mem.tail _ ?_)⟩⟩⟩⟩
      case ho => exact fun p hp => by repeat (first | exact List.mem_append_right _ hp | refine List.Mem.tail _ ?_)
      case hr => kst_same
      case ha =>
        rename _ ∧ _ ∧ _ ∧ _ ∧ _ ∧ _ ∧ _ ∧ AllLt _ (tl ++ own) => l1
        exact List.forall_mem_cons.mpr ⟨fun p hp => Nat.ne_of_lt (ktn_ltOf l1.2.2.2.2.2.2.2 p (List.mem_append_right _ hp)), fun q hq => hown q (.tail _ hq)⟩
  case done =>
    rintro ⟨D, a, b, t, u, n⟩ u9 h tk - kInv kFr kNews
    dsimp only [FrX, kstB, envOf] at kFr
    dsimp only [o2, PySem.W.listOf, envOf] at kInv kNews
    have hab := turnsF_end (by omega) kInv
    cases hab
    clear N2 F2
    k_with_none
    try k_fold
    k_steps
    k_dflt (refine Assign_comp2 kFr rfl (by with_unfolding_all rfl) (by with_unfolding_all rfl) (by decide) rfl (by decide) rfl rfl (by decide) rfl rfl ?_)
    k_steps
    rename IsRange _ _ _ _ _ _ _ _ => rgU
    rename News _ _ _ _ => N3
    rename Fr _ _ _ _ => F3
    refine ⟨_, _, _, _, _, _, NN, _, RO, rfl, rfl, F3, N3, rgU, small_one (by omega) (by omega) (by omega) (by omega), (by rw [rangeSize_nat]; congr 1; omega), ⟨[], rfl, rfl, Nat.le_refl _⟩, ?tu, ?fi⟩
    case tu =>
      intro g0 i ys I oI C oC D m₂ h tk t1 E' hi hRO hC hm FC NC offC neC
      obtain ⟨l1, hl1⟩ := unitsF_pre hunits (i + 1) (by omega)
      obtain ⟨l0, l', hl0, hl', hl1e⟩ := unitsF_step hl1
      have hys : ys.length ≤ 10 * i := by obtain ⟨_, _, _, e⟩ := hRO; exact e
      clear N3 F3
      k_with_none
      k_steps
      rename IsRange _ _ _ _ _ _ _ _ => rgV
      rename News _ _ _ _ => N3
      rename Fr _ _ _ _ => F3
      refine ⟨_, _, _, _, _, _, i + 1, _, _, RI i ys.length, rfl, rfl, F3, N3, rgV, small_one (by omega) (by omega) (by omega) (by omega), (by rw [rangeSize_nat]; congr 1; omega), ?hsz, ⟨[], rfl, by simp, by simp⟩, fun ys' hr' => RO_next (by omega) hl1 hRO hr', ?t2⟩
      case hsz => (have hsl := sizeLine_eq; omega)
      intro j ys' I2 oI2 oC' m₃ g tk' t2 E'' hj hRI hC' hm1 hm2 Fg Ng offg neg
      obtain ⟨lj, hlj⟩ := unitsIn_pre hl' (j + 1) (by omega)
      obtain ⟨lj0, uj, q1, q2, q3, q4⟩ := unitsIn_step hlj
      clear N3 F3
      cases uj with
      | none =>
        have hinv : invF (0 + (j : Int)) (1 + (i : Int)) = some none := by rw [Int.zero_add, Int.add_comm]; exact q2
        k_steps
        exact PyProof.Rows.LCg.CompEnd.intro (by assumption) (by assumption) _ (fun _ hp => hp) offg trivial ⟨rfl, RI_no hRI hlj q2⟩
      | some v =>
        have hinv : invF (0 + (j : Int)) (1 + (i : Int)) = some (some v) := by rw [Int.zero_add, Int.add_comm]; exact q2
        k_steps
        exact PyProof.Rows.LCg.CompEnd.intro (by assumption) (by assumption) _ (fun _ hp => hp) offg trivial ⟨rfl, RI_yes hRI hlj q2⟩
    case fi =>
      intro ys hRO
      obtain ⟨l, hl, hys, hys2⟩ := hRO
      rw [hunits] at hl
      cases hl
      intro D5 h5 tk5 F5 N5 off5
      clear N3 F3
      k_with_none
      k_with "item" => ((with_reducible show wpAny _ _ (subscriptTail _ _ (Value.ref F0) _) _ _ _); rename News _ _ _ _ => N1; k_dflt (refine my_last N1 (by k_mem) hrow hlast ?_); intro Dx tx ux nx hDx; dsimp only [o2] at hDx; try dsimp only)
      k_with "call builtin:len" => ((with_reducible show wpAny _ _ (PySem.call _ [Value.ref F0]) _ _ _); rename News _ _ _ _ => N1; k_dflt (refine my_len N1 (by k_mem) rfl rfl hvl hrl ?_); try dsimp only)
      k_with "call builtin:len" => ((with_reducible show wpAny _ _ (PySem.call _ [Value.ref D5]) _ _ _); rename News _ _ _ _ => N1; k_dflt (refine my_len N1 (by k_mem) rfl rfl hys (by omega) ?_); try dsimp only)
      k_with "eval ListComp" => refine hold ?_
      k_steps
      unfold Hold
      rename Fr _ _ _ _ => F6
      k_dflt (refine ListComp_rev F6 (by with_unfolding_all rfl) (by decide) rfl (by decide) rfl ?_)
      k_with_none
      k_steps
      rename News _ _ _ _ => N6
      rename Fr _ _ _ _ => F6
      rename _ ∧ _ => l1
      refine ⟨_, F0, vs, cf, _, rfl, rfl, F6, N6, by k_mem, fun p hp => Nat.ne_of_lt (ktn_ltOf (by exact l1) p hp), (by have hsl := sizeLine_eq; omega), ?_⟩
      refine my_restV (fun i ys tl2 => DatAll tl2 ys (((row.reverse.take i).map fun one => (one.2 - one.1, one.2)).map p2d)) .nil ?tv ?fv
      case tv =>
        intro i v ys tl2 I oI C oC D m₂ h tk E' hi hv hR hC hm FC NC offC neC
        obtain ⟨D1, x1, x2, td, ud, nd, rfl, hD1, hrx⟩ := row_at hrow hv
        have hrr : row.reverse[i]? = some (x1, x2) := by rw [List.getElem?_reverse (by omega), ← hvl]; exact hrx
        have hD2 := List.mem_append_right tl2 (show (D1, o2 x1 x2 td ud nd) ∈ _ by (repeat (first | exact hD1 | refine List.mem_cons_of_mem _ ?_)))
        rw [take_next hrr]
        dsimp only [o2] at hD2
        clear N6 F6 l1
        k_steps
        rename _ ∧ _ ∧ _ ∧ AllLt _ _ => l2
        rename News _ _ _ _ => N7
        exact PyProof.Rows.LCg.CompEnd.intro (by assumption) N7 ((_, o2 (x2 - x1) x2 _ _ _) :: (tl2 ++ _)) (List.forall_mem_cons.mpr ⟨by k_mem, List.forall_mem_cons.mpr ⟨by k_mem, List.forall_mem_cons.mpr ⟨by k_mem, List.forall_mem_cons.mpr ⟨by k_mem, fun p hp => by repeat (first | exact hp | refine List.Mem.tail _ ?_)⟩⟩⟩⟩) ⟨⟨Nat.ne_of_gt l2.1, Nat.ne_of_gt l2.2.1, Nat.ne_of_gt l2.2.2.1⟩, offC⟩ (by repeat (first | exact List.mem_append_right _ (by k_mem) | refine List.Mem.tail _ ?_)) ⟨_ :: tl2, rfl, by rw [List.map_append]; exact dat_push hR (fun p hp => List.Mem.tail _ hp) (by exact List.Mem.head _)⟩
      case fv =>
        intro ys tl2 hR
        rw [hvl, List.take_of_length_le (by rw [List.length_reverse]; exact Nat.le_refl _), hmir] at hR
        intro D7 h7 tk7 F7 N7 off7
        clear N6 F6 l1
        k_with_none
        k_with "call builtin:len" => ((with_reducible show wpAny _ _ (PySem.call _ [Value.ref F0]) _ _ _); rename News _ _ _ _ => N1; k_dflt (refine my_len N1 (by k_mem) rfl rfl hvl hrl ?_); try dsimp only)
        k_with "call builtin:sum" => ((with_reducible show wpAny _ _ (PySem.call _ [Value.ref T0]) _ _ _); rename News _ _ _ _ => N1; rename Fr _ _ _ _ => F1; k_dflt (refine my_sum (by with_unfolding_all rfl) F1 N1 (by k_mem) rfl rfl hti ?_); intro h8 tk8 t8 F8 N8; clear N1 F1; try dsimp only)
        k_with "call ref" => ((with_reducible show wpAny _ _ (PySem.call (Value.ref 125) _) _ _ _); (k_dflt (refine' CallC.use ?k1 ?k2 ?k3 ?k4 ?k5 ?kK (best_c _ _ _ _ _ _ _ _ _ _ _ _ _ hbest _ ?kA) ?kd ?ku ?_)); (case k1 => k_asm); (case k2 => k_asm); (case k3 => k_asm); (case k4 => k_asm); (case k5 => k_asm); (case kK => k_dflt (first | exact rfl | assumption)); (case kA => k_mem); (case kd => first | exact Nat.le_of_ble_eq_true rfl | ktr_room); (case ku => first | exact Nat.le_of_ble_eq_true rfl | ktr_units); (rintro v nx h' tk' F' N' ⟨D', t1, t2, n1, hv, hn⟩); subst hn; subst hv; (try dsimp only [o2] at N'); (try k_fold))
        k_with "call ref" => ((with_reducible show wpAny _ _ (PySem.call (Value.ref 144) _) _ _ _); (k_dflt (refine' CallC.use ?k1 ?k2 ?k3 ?k4 ?k5 ?kK (lbest_c _ _ _ _ _ _ _ _ _ _ _ _ _ _ _ hrow hrl _ hlbest _ ?kR ?kA ?kt) ?kd ?ku ?_)); (case k1 => k_asm); (case k2 => k_asm); (case k3 => k_asm); (case k4 => k_asm); (case k5 => k_asm); (case kK => k_dflt (first | exact rfl | assumption)); (case kR => k_mem); (case kA => k_mem); (case kt => k_dflt (exact fun p hp => by repeat (first | exact hp | refine List.mem_append_right _ ?_ | refine List.Mem.tail _ ?_))); (case kd => first | exact Nat.le_of_ble_eq_true rfl | ktr_room); (case ku => first | exact Nat.le_of_ble_eq_true rfl | ktr_units); (rintro v nx h' tk' F' N' ⟨D', t1, t2, n1, hv, hn⟩); subst hn; subst hv; (try dsimp only [o2] at N'); (try k_fold))
        k_steps)
end Mine
theorem PySem.Challenge.cw_xm0069_01_holds : PySem.Challenge.rw_xm0069_01.Holds :=
  Mine.law_t
