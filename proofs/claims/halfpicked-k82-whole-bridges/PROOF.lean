import PyProof.Rows.All
import Wide.All
import OpenK.AllK
import Wide.FinOn
import HandS.ForMost
import HandS.Star
import HandS.Property
import HandS.DictComp
import HandS.Walk
import HandS.Style
import HandS.Deep
import HandS.IsInst
import HandS.Conv
import HandS.Wide
import HandS.Defaults
import HandS.More
import KE.GoesEnum
import HandS.RevTup
import HandS.ForExc
import HandS.HeadHook2
import HandS.HeadHook1
import HandS.Head2
import HandS.HeadEnd
import HandS.Codes
import HandS.Text
import PySem.Challenge.RW_halfpicked_k82_whole_bridges
/-! Cuts and flows of a doubled network: plain Lean, no program in sight. -/
namespace HP

/-- sum of f over 0 .. n-1 -/
def sumN : Nat → (Nat → Int) → Int
  | 0, _ => 0
  | n + 1, f => sumN n f + f n

theorem sumN_congr {n : Nat} {f g : Nat → Int} (h : ∀ i, i < n → f i = g i) : sumN n f = sumN n g := by
  induction n with
  | zero => rfl
  | succ n ih =>
    simp only [sumN]
    rw [ih (fun i hi => h i (by omega)), h n (by omega)]

theorem sumN_add (n : Nat) (f g : Nat → Int) : sumN n (fun i => f i + g i) = sumN n f + sumN n g := by
  induction n with
  | zero => rfl
  | succ n ih => simp only [sumN]; rw [ih]; omega

theorem sumN_zero (n : Nat) : sumN n (fun _ => 0) = 0 := by
  induction n with
  | zero => rfl
  | succ n ih => simp only [sumN]; rw [ih]; rfl

theorem sumN_nonneg {n : Nat} {f : Nat → Int} (h : ∀ i, i < n → 0 ≤ f i) : 0 ≤ sumN n f := by
  induction n with
  | zero => exact Int.le_refl _
  | succ n ih =>
    have h1 := ih (fun i hi => h i (by omega))
    have h2 := h n (by omega)
    simp only [sumN]; omega

theorem sumN_le {n : Nat} {f g : Nat → Int} (h : ∀ i, i < n → f i ≤ g i) : sumN n f ≤ sumN n g := by
  induction n with
  | zero => exact Int.le_refl _
  | succ n ih =>
    have h1 := ih (fun i hi => h i (by omega))
    have h2 := h n (by omega)
    simp only [sumN]; omega

/-- one term is at most the sum of nonnegative terms -/
theorem sumN_term {n : Nat} {f : Nat → Int} (h : ∀ i, i < n → 0 ≤ f i) {k : Nat} (hk : k < n) : f k ≤ sumN n f := by
  induction n with
  | zero => omega
  | succ n ih =>
    simp only [sumN]
    rcases Nat.lt_or_ge k n with hk' | hk'
    · have h1 := ih (fun i hi => h i (by omega)) hk'
      have h2 := h n (by omega)
      omega
    · have : k = n := by omega
      subst this
      have h1 := sumN_nonneg (n := k) (f := f) (fun i hi => h i (by omega))
      omega

theorem sumN_upd {n : Nat} {f g : Nat → Int} {k : Nat} (hk : k < n) (h : ∀ i, i < n → i ≠ k → f i = g i) : sumN n f = sumN n g + (f k - g k) := by
  induction n with
  | zero => omega
  | succ n ih =>
    simp only [sumN]
    rcases Nat.lt_or_ge k n with hk' | hk'
    · rw [ih hk' (fun i hi => h i (by omega)), h n (by omega) (by omega)]; omega
    · have : k = n := by omega
      subst this
      rw [sumN_congr (f := f) (g := g) (fun i hi => h i (by omega) (by omega))]; omega

theorem sumN_split (n m : Nat) (f : Nat → Int) : sumN (n + m) f = sumN n f + sumN m (fun i => f (n + i)) := by
  induction m with
  | zero => simp [sumN]
  | succ m ih => rw [Nat.add_succ]; simp only [sumN]; rw [ih]; omega

theorem sumN_two (n : Nat) (f : Nat → Int) : sumN (2 * n) f = sumN n (fun i => f (2 * i) + f (2 * i + 1)) := by
  induction n with
  | zero => rfl
  | succ n ih =>
    rw [show 2 * (n + 1) = 2 * n + 1 + 1 by omega]
    simp only [sumN]; rw [ih]; omega

/-- an edge: tail, head, room -/
structure Edge where
  tl : Nat
  hd : Nat
  cp : Int
deriving Inhabited

/-- the tail of edge e (odd numbers are the reverse edges) -/
def tailOf (E : List Edge) (e : Nat) : Nat := if e % 2 = 0 then (E.getD (e / 2) default).tl else (E.getD (e / 2) default).hd
def headOf (E : List Edge) (e : Nat) : Nat := if e % 2 = 0 then (E.getD (e / 2) default).hd else (E.getD (e / 2) default).tl
def roomOf (E : List Edge) (e : Nat) : Int := if e % 2 = 0 then (E.getD (e / 2) default).cp else 0
def mate (e : Nat) : Nat := if e % 2 = 0 then e + 1 else e - 1

theorem mate_lt {m e : Nat} (h : e < 2 * m) : mate e < 2 * m := by unfold mate; split <;> omega
theorem mate_ne (e : Nat) : mate e ≠ e := by unfold mate; split <;> omega
theorem tail_mate (E : List Edge) (e : Nat) : tailOf E (mate e) = headOf E e := by
  unfold tailOf headOf mate
  by_cases h : e % 2 = 0
  · rw [if_pos h, if_neg (show ¬ (e + 1) % 2 = 0 by omega), if_pos h, show (e + 1) / 2 = e / 2 by omega]
  · rw [if_neg h, if_pos (show (e - 1) % 2 = 0 by omega), if_neg h, show (e - 1) / 2 = e / 2 by omega]
theorem head_mate (E : List Edge) (e : Nat) : headOf E (mate e) = tailOf E e := by
  unfold tailOf headOf mate
  by_cases h : e % 2 = 0
  · rw [if_pos h, if_neg (show ¬ (e + 1) % 2 = 0 by omega), if_pos h, show (e + 1) / 2 = e / 2 by omega]
  · rw [if_neg h, if_pos (show (e - 1) % 2 = 0 by omega), if_neg h, show (e - 1) / 2 = e / 2 by omega]

/-- the room that leaves S -/
def crossing (E : List Edge) (S : Nat → Bool) (e : Nat) : Bool := S (tailOf E e) && !(S (headOf E e))
def rescut (E : List Edge) (S : Nat → Bool) (r : Nat → Int) : Int := sumN (2 * E.length) (fun e => if crossing E S e then r e else 0)
def ind (b : Bool) : Int := if b then 1 else 0

/-- sending a along edge e changes the cut by a times the step over S -/
theorem rescut_push {E : List Edge} {S : Nat → Bool} {r r' : Nat → Int} {e : Nat} {a : Int} (he : e < 2 * E.length) (h1 : r' e = r e - a) (h2 : r' (mate e) = r (mate e) + a) (h3 : ∀ i, i ≠ e → i ≠ mate e → r' i = r i) :
    rescut E S r' = rescut E S r - a * (ind (S (tailOf E e)) - ind (S (headOf E e))) := by
  let q : Nat → Int := fun i => if i = e then r e - a else r i
  have s1 : rescut E S q = rescut E S r + ((if crossing E S e then q e else 0) - (if crossing E S e then r e else 0)) := by
    refine sumN_upd he (fun i _ hi => ?_)
    show (if crossing E S i then (if i = e then r e - a else r i) else 0) = _
    rw [if_neg hi]
  have s2 : rescut E S r' = rescut E S q + ((if crossing E S (mate e) then r' (mate e) else 0) - (if crossing E S (mate e) then q (mate e) else 0)) := by
    refine sumN_upd (mate_lt he) (fun i _ hi => ?_)
    show (if crossing E S i then r' i else 0) = (if crossing E S i then (if i = e then r e - a else r i) else 0)
    by_cases hie : i = e
    · rw [if_pos hie, hie, h1]
    · rw [if_neg hie, h3 i hie hi]
  have e1 : q e = r e - a := if_pos rfl
  have e2 : q (mate e) = r (mate e) := if_neg (mate_ne e)
  rw [s2, s1, e1, e2, h2]
  have cm : crossing E S (mate e) = (S (headOf E e) && !(S (tailOf E e))) := by
    unfold crossing; rw [tail_mate, head_mate]
  rw [cm]
  unfold crossing ind
  cases S (tailOf E e) <;> cases S (headOf E e) <;> simp <;> omega

/-- es leads backwards from v to w: the first edge's head is v, each edge's tail is the next one's head -/
def Chain (E : List Edge) : Nat → List Nat → Nat → Prop
  | v, [], w => v = w
  | v, e :: es, w => headOf E e = v ∧ Chain E (tailOf E e) es w

theorem Chain.snoc {E : List Edge} {e w : Nat} : ∀ {es : List Nat} {v : Nat}, Chain E v es w → headOf E e = w → Chain E v (es ++ [e]) (tailOf E e)
  | [], v, h, h2 => by
    have hv : v = w := h
    exact ⟨h2.trans hv.symm, rfl⟩
  | _ :: _, _, h, h2 => ⟨h.1, Chain.snoc h.2 h2⟩

/-- one push -/
def push1 (r : Nat → Int) (e : Nat) (a : Int) : Nat → Int := fun i => if i = mate e then r (mate e) + a else if i = e then r e - a else r i
def pushAll (r : Nat → Int) (a : Int) : List Nat → Nat → Int
  | [] => r
  | e :: es => pushAll (push1 r e a) a es

theorem pushAll_cut {E : List Edge} {S : Nat → Bool} {a : Int} {w : Nat} : ∀ (es : List Nat) (r : Nat → Int) (v : Nat), Chain E v es w → (∀ e ∈ es, e < 2 * E.length) →
    rescut E S (pushAll r a es) = rescut E S r - a * (ind (S w) - ind (S v))
  | [], r, v, h, _ => by
    have hv : v = w := h
    subst hv
    simp [pushAll]
  | e :: es, r, v, h, hl => by
    have he := hl e (List.mem_cons_self ..)
    have ih := pushAll_cut (S := S) (a := a) es (push1 r e a) (tailOf E e) h.2 (fun x hx => hl x (List.mem_cons_of_mem _ hx))
    have p := rescut_push (E := E) (S := S) (r := r) (r' := push1 r e a) (e := e) (a := a) he (by simp [push1, Ne.symm (mate_ne e)]) (by simp [push1]) (fun i hi hm => by simp [push1, hi, hm])
    simp only [pushAll]
    rw [ih, p, h.1]
    rw [Int.mul_sub, Int.mul_sub, Int.mul_sub]; omega

theorem pushAll_nonneg {a : Int} (ha : 0 ≤ a) : ∀ (es : List Nat) (r : Nat → Int), es.Nodup → (∀ e ∈ es, a ≤ r e) → (∀ i, 0 ≤ r i) → ∀ i, 0 ≤ pushAll r a es i
  | [], _, _, _, h => h
  | e :: es, r, hn, hle, h => by
    simp only [pushAll]
    have hn' := List.nodup_cons.mp hn
    refine pushAll_nonneg ha es _ hn'.2 (fun x hx => ?_) (fun i => ?_)
    · have hx1 := hle x (List.mem_cons_of_mem _ hx)
      have hne : x ≠ e := fun q => hn'.1 (q ▸ hx)
      unfold push1
      by_cases hm : x = mate e
      · rw [if_pos hm, ← hm]; omega
      · rw [if_neg hm, if_neg hne]; exact hx1
    · unfold push1
      by_cases hm : i = mate e
      · rw [if_pos hm]; have := h (mate e); omega
      · rw [if_neg hm]
        by_cases hi : i = e
        · rw [if_pos hi]; have := hle e (List.mem_cons_self ..); omega
        · rw [if_neg hi]; exact h i

/-- S parts the source from the sink -/
structure Parts (src snk : Nat) (S : Nat → Bool) : Prop where
  src : S src = true
  snk : S snk = false

theorem rescut_nonneg {E : List Edge} {S : Nat → Bool} {r : Nat → Int} (h : ∀ i, 0 ≤ r i) : 0 ≤ rescut E S r := by
  refine sumN_nonneg (fun i _ => ?_)
  by_cases hc : crossing E S i = true
  · rw [if_pos hc]; exact h i
  · rw [if_neg hc]; exact Int.le_refl _

theorem rescut_zero {E : List Edge} {S : Nat → Bool} {r : Nat → Int} (h : ∀ e, e < 2 * E.length → S (tailOf E e) = true → S (headOf E e) = false → r e = 0) : rescut E S r = 0 := by
  rw [show (0 : Int) = sumN (2 * E.length) (fun _ => 0) from (sumN_zero _).symm]
  refine sumN_congr (fun i hi => ?_)
  by_cases hc : crossing E S i = true
  · rw [if_pos hc]
    simp [crossing] at hc
    exact h i hi hc.1 hc.2
  · rw [if_neg hc]

/-- where the cut is 0 no room leaves S -/
theorem closed_of_rescut {E : List Edge} {S : Nat → Bool} {r : Nat → Int} (hn : ∀ i, 0 ≤ r i) (h : rescut E S r = 0) {e : Nat} (he : e < 2 * E.length) (ht : S (tailOf E e) = true) (hr : 0 < r e) : S (headOf E e) = true := by
  cases hh : S (headOf E e) with
  | true => rfl
  | false =>
    have := sumN_term (n := 2 * E.length) (f := fun e => if crossing E S e then r e else 0) (fun i _ => by
      show 0 ≤ (if crossing E S i then r i else 0)
      by_cases hc : crossing E S i = true
      · rw [if_pos hc]; exact hn i
      · rw [if_neg hc]; exact Int.le_refl _) he
    have hc : crossing E S e = true := by simp [crossing, ht, hh]
    simp only [hc, if_true] at this
    unfold rescut at h
    omega

/-- a flow of worth t within the rooms r: what every cut has lost is t -/
structure Flow (E : List Edge) (src snk : Nat) (r : Nat → Int) (t : Int) : Prop where
  pos : ∀ i, 0 ≤ r i
  cut : ∀ S, Parts src snk S → rescut E S r + t = rescut E S (roomOf E)

theorem Flow.init {E : List Edge} {src snk : Nat} (h : ∀ x ∈ E, 0 ≤ x.cp) : Flow E src snk (roomOf E) 0 := by
  refine ⟨fun i => ?_, fun S _ => by omega⟩
  unfold roomOf
  split
  · rcases Nat.lt_or_ge (i / 2) E.length with hl | hl
    · rw [List.getD_eq_getElem?_getD, List.getElem?_eq_getElem hl]
      exact h _ (List.getElem_mem hl)
    · rw [List.getD_eq_getElem?_getD, List.getElem?_eq_none hl]; exact Int.le_refl _
  · exact Int.le_refl _

theorem Flow.push {E : List Edge} {src snk : Nat} {r : Nat → Int} {t a : Int} {es : List Nat} (F : Flow E src snk r t) (hc : Chain E snk es src) (hn : es.Nodup) (hl : ∀ e ∈ es, e < 2 * E.length) (ha : 0 ≤ a) (hle : ∀ e ∈ es, a ≤ r e) :
    Flow E src snk (pushAll r a es) (t + a) := by
  refine ⟨pushAll_nonneg ha es r hn hle F.pos, fun S P => ?_⟩
  rw [pushAll_cut (S := S) (a := a) es r snk hc hl, P.src, P.snk, ← F.cut S P]
  simp [ind]; omega

/-- each cut bounds the flow -/
theorem Flow.le {E : List Edge} {src snk : Nat} {r : Nat → Int} {t : Int} (F : Flow E src snk r t) {S : Nat → Bool} (P : Parts src snk S) : t ≤ rescut E S (roomOf E) := by
  have h1 := F.cut S P
  have h2 := rescut_nonneg (E := E) (S := S) F.pos
  omega

/-- a greatest flow: some cut is full -/
structure Full (E : List Edge) (src snk : Nat) (r : Nat → Int) (t : Int) : Prop extends Flow E src snk r t where
  full : ∃ S, Parts src snk S ∧ rescut E S r = 0

theorem Full.tight {E : List Edge} {src snk : Nat} {r : Nat → Int} {t : Int} (F : Full E src snk r t) {S : Nat → Bool} (P : Parts src snk S) : rescut E S r = 0 ↔ rescut E S (roomOf E) = t := by
  have h1 := F.cut S P
  omega
end HP

namespace HP

def sumL (f : α → Int) : List α → Int
  | [] => 0
  | x :: xs => f x + sumL f xs

theorem sumL_append (f : α → Int) : ∀ xs ys : List α, sumL f (xs ++ ys) = sumL f xs + sumL f ys
  | [], ys => by simp [sumL]
  | x :: xs, ys => by simp only [List.cons_append, sumL]; rw [sumL_append f xs ys]; omega

theorem sumL_congr {f g : α → Int} : ∀ {xs : List α}, (∀ x ∈ xs, f x = g x) → sumL f xs = sumL g xs
  | [], _ => rfl
  | x :: xs, h => by
    simp only [sumL]
    rw [h x (List.mem_cons_self ..), sumL_congr (fun y hy => h y (List.mem_cons_of_mem _ hy))]

theorem sumL_nonneg {f : α → Int} : ∀ {xs : List α}, (∀ x ∈ xs, 0 ≤ f x) → 0 ≤ sumL f xs
  | [], _ => Int.le_refl _
  | x :: xs, h => by
    have h1 := h x (List.mem_cons_self ..)
    have h2 := sumL_nonneg (xs := xs) (fun y hy => h y (List.mem_cons_of_mem _ hy))
    simp only [sumL]; omega

theorem sumL_term {f : α → Int} : ∀ {xs : List α}, (∀ x ∈ xs, 0 ≤ f x) → ∀ y ∈ xs, f y ≤ sumL f xs
  | x :: xs, h, y, hy => by
    have h1 := h x (List.mem_cons_self ..)
    have hp : ∀ z ∈ xs, 0 ≤ f z := fun z hz => h z (List.mem_cons_of_mem _ hz)
    have h2 := sumL_nonneg hp
    simp only [sumL]
    rcases List.mem_cons.mp hy with rfl | hy
    · omega
    · have := sumL_term hp y hy; omega

theorem sumL_perm {f : α → Int} {xs ys : List α} (h : xs.Perm ys) : sumL f xs = sumL f ys := by
  induction h with
  | nil => rfl
  | cons x _ ih => simp only [sumL]; rw [ih]
  | swap x y l => simp only [sumL]; omega
  | trans _ _ i1 i2 => exact i1.trans i2

theorem sumL_map (f : β → Int) (g : α → β) : ∀ xs : List α, sumL f (xs.map g) = sumL (fun x => f (g x)) xs
  | [] => rfl
  | x :: xs => by simp only [List.map_cons, sumL]; rw [sumL_map f g xs]

theorem sumL_sum (f : α → Int) : ∀ xs : List α, (xs.map f).sum = sumL f xs
  | [] => rfl
  | x :: xs => by simp only [List.map_cons, List.sum_cons, sumL]; rw [sumL_sum f xs]

theorem sumN_shift (f : Nat → Int) : ∀ n, sumN (n + 1) f = f 0 + sumN n (fun i => f (i + 1))
  | 0 => by simp [sumN]
  | n + 1 => by
    have := sumN_shift f n
    simp only [sumN] at this ⊢
    rw [this]; omega

theorem sumN_sumL (f : α → Int) (d : α) : ∀ xs : List α, sumN xs.length (fun i => f (xs.getD i d)) = sumL f xs
  | [] => rfl
  | x :: xs => by
    rw [List.length_cons, sumN_shift]
    simp only [List.getD_cons_zero, List.getD_cons_succ, sumL]
    rw [sumN_sumL f d xs]

/-- what an edge adds to the cut of S -/
def cutT (S : Nat → Bool) (x : Edge) : Int := if (S x.tl && !(S x.hd)) = true then x.cp else 0

theorem rescut_room (E : List Edge) (S : Nat → Bool) : rescut E S (roomOf E) = sumL (cutT S) E := by
  unfold rescut
  rw [sumN_two, ← sumN_sumL (cutT S) default E]
  refine sumN_congr (fun i hi => ?_)
  have h0 : (2 * i) % 2 = 0 := by omega
  have h1 : ¬ (2 * i + 1) % 2 = 0 := by omega
  have h2 : 2 * i / 2 = i := by omega
  unfold crossing tailOf headOf roomOf cutT
  simp only [h0, h1, h2, if_true, if_false]
  simp

/-- the edges of the items: from the source to the left side, from the right side to the sink -/
def baseE (n : Nat) : List Int → Nat → List Edge
  | [], _ => []
  | x :: xs, i => ⟨2 * n, i, x⟩ :: ⟨n + i, 2 * n + 1, x⟩ :: baseE n xs (i + 1)

theorem baseE_snoc (n : Nat) (x : Int) : ∀ (xs : List Int) (i : Nat), baseE n (xs ++ [x]) i = baseE n xs i ++ [⟨2 * n, i + xs.length, x⟩, ⟨n + (i + xs.length), 2 * n + 1, x⟩]
  | [], i => rfl
  | y :: ys, i => by
    simp only [List.cons_append, baseE, List.length_cons]
    rw [baseE_snoc n x ys (i + 1), show i + 1 + ys.length = i + (ys.length + 1) by omega]

theorem baseE_length (n : Nat) : ∀ (xs : List Int) (i : Nat), (baseE n xs i).length = 2 * xs.length
  | [], _ => rfl
  | y :: ys, i => by simp only [baseE, List.length_cons]; rw [baseE_length n ys (i + 1)]; omega

def arcE (b : Int) (A : List (Nat × Nat)) : List Edge := A.map fun q => ⟨q.1, q.2, b⟩
def bound (p : List Int) : Int := p.sum + 1
def netE (p : List Int) (A : List (Nat × Nat)) : List Edge := baseE p.length p 0 ++ arcE (bound p) A

/-- the value of item i for a source side -/
def val (n : Nat) (S : Nat → Bool) (i : Nat) : Int := ind (!(S i)) + ind (S (n + i))
def costS (n : Nat) (S : Nat → Bool) : List Int → Nat → Int
  | [], _ => 0
  | x :: xs, i => x * val n S i + costS n S xs (i + 1)

theorem base_cut {n : Nat} {S : Nat → Bool} (P : Parts (2 * n) (2 * n + 1) S) : ∀ (xs : List Int) (i : Nat), sumL (cutT S) (baseE n xs i) = costS n S xs i
  | [], _ => rfl
  | x :: xs, i => by
    simp only [baseE, sumL, costS]
    rw [base_cut P xs (i + 1)]
    unfold cutT val ind
    simp only [P.src, P.snk]
    cases S i <;> cases S (n + i) <;> simp <;> omega

/-- S keeps what the arcs ask -/
def Feas (A : List (Nat × Nat)) (S : Nat → Bool) : Prop := ∀ q ∈ A, S q.1 = true → S q.2 = true

theorem arc_feas {b : Int} {S : Nat → Bool} : ∀ {A : List (Nat × Nat)}, Feas A S → sumL (cutT S) (arcE b A) = 0
  | [], _ => rfl
  | q :: A, h => by
    have h1 := arc_feas (b := b) (A := A) (fun x hx => h x (List.mem_cons_of_mem _ hx))
    have h2 := h q (List.mem_cons_self ..)
    show cutT S ⟨q.1, q.2, b⟩ + sumL (cutT S) (arcE b A) = 0
    rw [h1]
    unfold cutT
    cases e1 : S q.1 <;> simp_all

theorem arc_nfeas {b : Int} (hb : 0 ≤ b) {S : Nat → Bool} {A : List (Nat × Nat)} (h : ¬ Feas A S) : b ≤ sumL (cutT S) (arcE b A) := by
  unfold Feas at h
  obtain ⟨q, hq, h1, h2⟩ : ∃ q, q ∈ A ∧ S q.1 = true ∧ S q.2 = false := by
    refine Classical.byContradiction fun hc => h fun q hq h1 => ?_
    cases h2 : S q.2 with
    | true => rfl
    | false => exact absurd ⟨q, hq, h1, h2⟩ hc
  have hm : (⟨q.1, q.2, b⟩ : Edge) ∈ arcE b A := List.mem_map.mpr ⟨q, hq, rfl⟩
  have := sumL_term (f := cutT S) (xs := arcE b A) (fun x hx => by
    obtain ⟨y, _, rfl⟩ := List.mem_map.mp hx
    unfold cutT
    split
    · exact hb
    · exact Int.le_refl _) _ hm
  have e : cutT S ⟨q.1, q.2, b⟩ = b := by unfold cutT; simp [h1, h2]
  omega

theorem val_nonneg (n : Nat) (S : Nat → Bool) (i : Nat) : 0 ≤ val n S i := by
  unfold val ind; cases S i <;> cases S (n + i) <;> decide
theorem val_le (n : Nat) (S : Nat → Bool) (i : Nat) : val n S i ≤ 2 := by
  unfold val ind; cases S i <;> cases S (n + i) <;> decide

theorem costS_nonneg {n : Nat} {S : Nat → Bool} : ∀ {xs : List Int} (i : Nat), (∀ x ∈ xs, 0 ≤ x) → 0 ≤ costS n S xs i
  | [], _, _ => Int.le_refl _
  | x :: xs, i, h => by
    have h1 := costS_nonneg (n := n) (S := S) (xs := xs) (i + 1) (fun y hy => h y (List.mem_cons_of_mem _ hy))
    have h2 := Int.mul_nonneg (h x (List.mem_cons_self ..)) (val_nonneg n S i)
    simp only [costS]; omega

theorem costS_all (n : Nat) : ∀ (xs : List Int) (i : Nat), costS n (fun k => k != 2 * n + 1) xs i ≤ xs.sum ∨ ∃ x ∈ xs, x < 0 ∨ n + (i + xs.length) > 2 * n + 1
  | [], _ => .inl (Int.le_refl _)
  | x :: xs, i => by
    rcases costS_all n xs (i + 1) with h | ⟨y, hy, h⟩
    · by_cases hx : x < 0
      · exact .inr ⟨x, List.mem_cons_self .., .inl hx⟩
      · by_cases hl : n + (i + (x :: xs).length) > 2 * n + 1
        · exact .inr ⟨x, List.mem_cons_self .., .inr hl⟩
        · refine .inl ?_
          simp only [List.length_cons] at hl
          simp only [costS, List.sum_cons]
          have e : val n (fun k => k != 2 * n + 1) i = 1 := by
            have h1 : (i != 2 * n + 1) = true := by simp; omega
            have h2 : (n + i != 2 * n + 1) = true := by simp; omega
            unfold val ind; simp only [h1, h2]; decide
          rw [e]; omega
    · refine .inr ⟨y, List.mem_cons_of_mem _ hy, ?_⟩
      rcases h with h | h
      · exact .inl h
      · refine .inr ?_
        simp only [List.length_cons]; omega

theorem costS_congr {n : Nat} {S T : Nat → Bool} : ∀ {xs : List Int} {i : Nat}, (∀ k, k < i + xs.length → S k = T k ∧ S (n + k) = T (n + k)) → costS n S xs i = costS n T xs i
  | [], _, _ => rfl
  | x :: xs, i, h => by
    simp only [costS]
    rw [costS_congr (xs := xs) (i := i + 1) (fun k hk => h k (by simp only [List.length_cons]; omega))]
    have := h i (by simp only [List.length_cons]; omega)
    unfold val
    rw [this.1, this.2]

/-- a choice S that keeps the arcs and costs least -/
def Opt (p : List Int) (A : List (Nat × Nat)) (t : Int) (S : Nat → Bool) : Prop := Feas A S ∧ costS p.length S p 0 = t

structure Least (p : List Int) (A : List (Nat × Nat)) (t : Int) : Prop where
  ex : ∃ S, Opt p A t S
  le : ∀ S, Feas A S → t ≤ costS p.length S p 0

/-- the nodes of the arcs are nodes of items -/
def ArcsIn (n : Nat) (A : List (Nat × Nat)) : Prop := ∀ q ∈ A, q.1 < 2 * n ∧ q.2 < 2 * n

def fixS (n : Nat) (S : Nat → Bool) : Nat → Bool := fun k => if k = 2 * n then true else if k = 2 * n + 1 then false else S k
theorem fixS_parts (n : Nat) (S : Nat → Bool) : Parts (2 * n) (2 * n + 1) (fixS n S) := ⟨by simp [fixS], by simp [fixS]⟩
theorem fixS_in {n k : Nat} (S : Nat → Bool) (h : k < 2 * n) : fixS n S k = S k := by
  unfold fixS; rw [if_neg (by omega), if_neg (by omega)]
theorem fixS_feas {n : Nat} {A : List (Nat × Nat)} {S : Nat → Bool} (hA : ArcsIn n A) : Feas A (fixS n S) ↔ Feas A S := by
  refine ⟨fun h q hq => ?_, fun h q hq => ?_⟩ <;> have hq' := hA q hq <;> have := h q hq
  · rw [fixS_in S hq'.1, fixS_in S hq'.2] at this; exact this
  · rw [fixS_in S hq'.1, fixS_in S hq'.2]; exact this
theorem fixS_cost {p : List Int} {S : Nat → Bool} : costS p.length (fixS p.length S) p 0 = costS p.length S p 0 :=
  costS_congr (fun k hk => ⟨fixS_in S (by omega), fixS_in S (by omega)⟩)

theorem net_cut {p : List Int} {A : List (Nat × Nat)} {S : Nat → Bool} (P : Parts (2 * p.length) (2 * p.length + 1) S) : rescut (netE p A) S (roomOf (netE p A)) = costS p.length S p 0 + sumL (cutT S) (arcE (bound p) A) := by
  rw [rescut_room, netE, sumL_append, base_cut P]

theorem sum_nonneg' : ∀ {p : List Int}, (∀ x ∈ p, 0 ≤ x) → 0 ≤ p.sum
  | [], _ => Int.le_refl _
  | x :: xs, h => by
    have h1 := h x (List.mem_cons_self ..)
    have h2 := sum_nonneg' (p := xs) (fun y hy => h y (List.mem_cons_of_mem _ hy))
    simp only [List.sum_cons]; omega

theorem net_all {p : List Int} {A : List (Nat × Nat)} (hp : ∀ x ∈ p, 0 ≤ x) (hA : ArcsIn p.length A) : ∃ S, Parts (2 * p.length) (2 * p.length + 1) S ∧ rescut (netE p A) S (roomOf (netE p A)) ≤ p.sum := by
  refine ⟨fun k => k != 2 * p.length + 1, ⟨by simp, by simp⟩, ?_⟩
  have hf : Feas A (fun k => k != 2 * p.length + 1) := fun q hq _ => by
    have := hA q hq
    simp; omega
  rw [net_cut ⟨by simp, by simp⟩, arc_feas hf]
  rcases costS_all p.length p 0 with h | ⟨x, hx, h⟩
  · omega
  · have := hp x hx
    rcases h with h | h
    · omega
    · omega

/-- what a greatest flow of the network of items and arcs tells -/
theorem Full.least {p : List Int} {A : List (Nat × Nat)} {r : Nat → Int} {t : Int} (hp : ∀ x ∈ p, 0 ≤ x) (hA : ArcsIn p.length A) (F : Full (netE p A) (2 * p.length) (2 * p.length + 1) r t) : Least p A t := by
  have hs := sum_nonneg' hp
  constructor
  · obtain ⟨S, P, h⟩ := F.full
    have h1 := F.tight P |>.mp h
    rw [net_cut P] at h1
    obtain ⟨T, PT, hT⟩ := net_all hp hA
    have h2 := F.le PT
    have hf : Feas A S := Classical.byContradiction fun hc => by
      have h3 := arc_nfeas (b := bound p) (by unfold bound; omega) hc
      have h4 := costS_nonneg (n := p.length) (S := S) 0 hp
      have hb : bound p = p.sum + 1 := rfl
      omega
    refine ⟨S, hf, ?_⟩
    rw [arc_feas hf] at h1; omega
  · intro S hf
    have P := fixS_parts p.length S
    have h1 := F.le P
    rw [net_cut P, arc_feas ((fixS_feas hA).mpr hf), fixS_cost] at h1
    omega

theorem Full.zero_iff {p : List Int} {A : List (Nat × Nat)} {r : Nat → Int} {t : Int} (hp : ∀ x ∈ p, 0 ≤ x) (hA : ArcsIn p.length A) (F : Full (netE p A) (2 * p.length) (2 * p.length + 1) r t) {S : Nat → Bool}
    (P : Parts (2 * p.length) (2 * p.length + 1) S) : rescut (netE p A) S r = 0 ↔ Opt p A t S := by
  have hs := sum_nonneg' hp
  rw [F.tight P, net_cut P]
  constructor
  · intro h
    have hf : Feas A S := Classical.byContradiction fun hc => by
      obtain ⟨T, PT, hT⟩ := net_all hp hA
      have h2 := F.le PT
      have h3 := arc_nfeas (b := bound p) (by unfold bound; omega) hc
      have h4 := costS_nonneg (n := p.length) (S := S) 0 hp
      have hb : bound p = p.sum + 1 := rfl
      omega
    refine ⟨hf, ?_⟩
    rw [arc_feas hf] at h; omega
  · rintro ⟨hf, hc⟩
    rw [arc_feas hf, hc]; omega

/-- the residual graph's reachable set: closed, holds the wanted nodes, least of all such -/
structure Reach (E : List Edge) (r : Nat → Int) (src : Nat) (nodes : List Nat) (T : Nat → Bool) : Prop where
  src_ : T src = true
  nodes_ : ∀ k ∈ nodes, T k = true
  closed : ∀ e, e < 2 * E.length → T (tailOf E e) = true → 0 < r e → T (headOf E e) = true
  least : ∀ S : Nat → Bool, S src = true → (∀ k ∈ nodes, S k = true) → (∀ e, e < 2 * E.length → S (tailOf E e) = true → 0 < r e → S (headOf E e) = true) → ∀ k, T k = true → S k = true

theorem Full.reach_none {p : List Int} {A : List (Nat × Nat)} {r : Nat → Int} {t : Int} {T : Nat → Bool} {nodes : List Nat} (hp : ∀ x ∈ p, 0 ≤ x) (hA : ArcsIn p.length A) (F : Full (netE p A) (2 * p.length) (2 * p.length + 1) r t)
    (R : Reach (netE p A) r (2 * p.length) nodes T) (hn : ∀ k ∈ nodes, k < 2 * p.length) (h : T (2 * p.length + 1) = true) : ¬ ∃ S, Opt p A t S ∧ ∀ k ∈ nodes, S k = true := by
  rintro ⟨S, ⟨hf, hc⟩, hk⟩
  have P := fixS_parts p.length S
  have hz := (F.zero_iff hp hA P).mpr ⟨(fixS_feas hA).mpr hf, by rw [fixS_cost]; exact hc⟩
  have := R.least (fixS p.length S) P.src (fun k hk' => by rw [fixS_in S (hn k hk')]; exact hk k hk') (fun e he ht hr => closed_of_rescut F.pos hz he ht hr) _ h
  rw [P.snk] at this
  cases this

theorem Full.reach_some {p : List Int} {A : List (Nat × Nat)} {r : Nat → Int} {t : Int} {T : Nat → Bool} {nodes : List Nat} (hp : ∀ x ∈ p, 0 ≤ x) (hA : ArcsIn p.length A) (F : Full (netE p A) (2 * p.length) (2 * p.length + 1) r t)
    (R : Reach (netE p A) r (2 * p.length) nodes T) (hn : ∀ k ∈ nodes, k < 2 * p.length) (h : T (2 * p.length + 1) = false) :
    Opt p A t T ∧ (∀ k ∈ nodes, T k = true) ∧ ∀ S, Opt p A t S → (∀ k ∈ nodes, S k = true) → ∀ k, k < 2 * p.length → T k = true → S k = true := by
  refine ⟨(F.zero_iff hp hA ⟨R.src_, h⟩).mp (rescut_zero fun e he h1 h2 => ?_), R.nodes_, ?_⟩
  · have := F.pos e
    rcases Int.lt_or_le 0 (r e) with h3 | h3
    · rw [R.closed e he h1 h3] at h2; cases h2
    · omega
  · rintro S ⟨hf, hc⟩ hk k hk2 hT
    have P := fixS_parts p.length S
    have hz := (F.zero_iff hp hA P).mpr ⟨(fixS_feas hA).mpr hf, by rw [fixS_cost]; exact hc⟩
    have := R.least (fixS p.length S) P.src (fun k hk' => by rw [fixS_in S (hn k hk')]; exact hk k hk') (fun e he ht hr => closed_of_rescut F.pos hz he ht hr) _ hT
    rw [fixS_in S hk2] at this
    exact this
end HP

set_option linter.all false
namespace HP
section
variable {α : Type} [DecidableEq α]

/-- places, prices, ties -/
structure WebD (α : Type) where
  N : List α
  pr : α → Int
  adj : α → α → Bool

structure WebD.Ok (W : WebD α) : Prop where
  nodup : W.N.Nodup
  pos : ∀ a ∈ W.N, 0 < W.pr a
  symm : ∀ a b, W.adj a b = W.adj b a
  irr : ∀ a, W.adj a a = false

/-- answers on the places F, with some places held at 1 or more -/
structure GAns (F : List α) (adj : α → α → Bool) (half : α → Bool) (x : α → Int) : Prop where
  rng : ∀ a ∈ F, 0 ≤ x a ∧ x a ≤ 2
  tie : ∀ a ∈ F, ∀ b ∈ F, adj a b = true → 2 ≤ x a + x b
  half : ∀ a ∈ F, half a = true → 1 ≤ x a

def gcost (F : List α) (pr : α → Int) (x : α → Int) : Int := sumL (fun a => pr a * x a) F

/-- what the arcs of a network of the places F say -/
structure ArcSpec (F : List α) (adj : α → α → Bool) (half : α → Bool) (A : List (Nat × Nat)) : Prop where
  only : ∀ q ∈ A, ∃ i j a b, F[i]? = some a ∧ F[j]? = some b ∧ q = (i, F.length + j) ∧ (adj a b = true ∨ (i = j ∧ half a = true))
  tie : ∀ i j a b, F[i]? = some a → F[j]? = some b → adj a b = true → (i, F.length + j) ∈ A
  half : ∀ i a, F[i]? = some a → half a = true → (i, F.length + i) ∈ A

theorem lt_of_get {F : List α} {i : Nat} {a : α} (h : F[i]? = some a) : i < F.length := (List.getElem?_eq_some_iff.mp h).1

theorem ArcSpec.arcsIn {F : List α} {adj : α → α → Bool} {half : α → Bool} {A : List (Nat × Nat)} (h : ArcSpec F adj half A) : ArcsIn F.length A := by
  intro q hq
  obtain ⟨i, j, a, b, hi, hj, rfl, _⟩ := h.only q hq
  have := lt_of_get hi
  have := lt_of_get hj
  constructor <;> simp <;> omega

/-- the place of a in F -/
def idx (a : α) : List α → Nat
  | [] => 0
  | b :: bs => if b = a then 0 else idx a bs + 1

theorem idx_get {a : α} : ∀ {F : List α}, a ∈ F → F[idx a F]? = some a
  | b :: bs, h => by
    unfold idx
    by_cases e : b = a
    · rw [if_pos e, e]; rfl
    · rw [if_neg e, List.getElem?_cons_succ]
      rcases List.mem_cons.mp h with rfl | h
      · exact absurd rfl e
      · exact idx_get h

theorem idx_of {a : α} : ∀ {F : List α} {i : Nat}, F.Nodup → F[i]? = some a → idx a F = i
  | b :: bs, i, hn, h => by
    have hn' := List.nodup_cons.mp hn
    unfold idx
    cases i with
    | zero =>
      have e : b = a := by simpa using h
      rw [if_pos e]
    | succ i =>
      rw [List.getElem?_cons_succ] at h
      have hm : a ∈ bs := List.mem_of_getElem? h
      have e : b ≠ a := fun q => hn'.1 (q ▸ hm)
      rw [if_neg e, idx_of hn'.2 h]

/-- the answer of a source side -/
def xOf (F : List α) (S : Nat → Bool) : α → Int := fun a => val F.length S (idx a F)
/-- a source side of an answer: halves on the right only -/
def sOf (F : List α) (x : α → Int) : Nat → Bool := fun k =>
  match F[k]? with
  | some a => decide (x a ≤ 1)
  | none => match F[k - F.length]? with
    | some a => decide (1 ≤ x a)
    | none => false

theorem costS_eq {n : Nat} {S : Nat → Bool} {pr x : α → Int} : ∀ {F : List α} {i : Nat}, (∀ k a, F[k]? = some a → val n S (i + k) = x a) → costS n S (F.map pr) i = gcost F pr x
  | [], _, _ => rfl
  | a :: F, i, h => by
    have h0 := h 0 a rfl
    have ih := costS_eq (n := n) (S := S) (pr := pr) (x := x) (F := F) (i := i + 1) (fun k b hk => by
      have := h (k + 1) b (by rw [List.getElem?_cons_succ]; exact hk)
      rw [show i + 1 + k = i + (k + 1) by omega]; exact this)
    show pr a * val n S i + costS n S (F.map pr) (i + 1) = pr a * x a + gcost F pr x
    rw [ih, show val n S i = x a from h0]

theorem sOf_left {F : List α} {x : α → Int} {i : Nat} {a : α} (h : F[i]? = some a) : sOf F x i = decide (x a ≤ 1) := by
  unfold sOf; rw [h]
theorem sOf_right {F : List α} {x : α → Int} {i : Nat} {a : α} (h : F[i]? = some a) : sOf F x (F.length + i) = decide (1 ≤ x a) := by
  unfold sOf
  rw [List.getElem?_eq_none (by omega : F.length ≤ F.length + i), show F.length + i - F.length = i by omega, h]

theorem val_sOf {F : List α} {x : α → Int} {i : Nat} {a : α} (h : F[i]? = some a) (h0 : 0 ≤ x a) (h2 : x a ≤ 2) : val F.length (sOf F x) i = x a := by
  unfold val ind
  rw [sOf_left h, sOf_right h]
  by_cases e1 : x a ≤ 1 <;> by_cases e2 : 1 ≤ x a <;> simp [e1, e2] <;> omega

variable {F : List α} {adj : α → α → Bool} {half : α → Bool} {A : List (Nat × Nat)} {pr : α → Int}

theorem GAns.feas {x : α → Int} (G : GAns F adj half x) (hA : ArcSpec F adj half A) : Feas A (sOf F x) := by
  intro q hq h1
  obtain ⟨i, j, a, b, hi, hj, rfl, h⟩ := hA.only q hq
  simp only at h1 ⊢
  rw [sOf_left hi] at h1
  have h1 := of_decide_eq_true h1
  rw [sOf_right hj]
  refine decide_eq_true ?_
  rcases h with h | ⟨rfl, h⟩
  · have := G.tie a (List.mem_of_getElem? hi) b (List.mem_of_getElem? hj) h
    omega
  · rw [hi] at hj
    have e := Option.some.inj hj
    subst e
    exact G.half a (List.mem_of_getElem? hi) h

theorem GAns.cost {x : α → Int} (G : GAns F adj half x) : costS F.length (sOf F x) (F.map pr) 0 = gcost F pr x :=
  costS_eq fun k a hk => by
    rw [Nat.zero_add]
    have := G.rng a (List.mem_of_getElem? hk)
    exact val_sOf hk this.1 this.2

theorem Feas.gans {S : Nat → Bool} (hF : F.Nodup) (hs : ∀ a b, adj a b = adj b a) (h : Feas A S) (hA : ArcSpec F adj half A) : GAns F adj half (xOf F S) := by
  refine ⟨fun a _ => ⟨val_nonneg _ _ _, val_le _ _ _⟩, fun a ha b hb hab => ?_, fun a ha hh => ?_⟩
  · have h1 := h _ (hA.tie _ _ _ _ (idx_get ha) (idx_get hb) hab)
    have h2 := h _ (hA.tie _ _ _ _ (idx_get hb) (idx_get ha) ((hs b a).trans hab))
    simp only at h1 h2
    unfold xOf val ind
    revert h1 h2
    cases S (idx a F) <;> cases S (idx b F) <;> cases S (F.length + idx a F) <;> cases S (F.length + idx b F) <;> simp
  · have h1 := h _ (hA.half _ _ (idx_get ha) hh)
    simp only at h1
    unfold xOf val ind
    revert h1
    cases S (idx a F) <;> cases S (F.length + idx a F) <;> simp

theorem xOf_cost {S : Nat → Bool} (hF : F.Nodup) : costS F.length S (F.map pr) 0 = gcost F pr (xOf F S) :=
  costS_eq fun k a hk => by
    rw [Nat.zero_add]
    unfold xOf
    rw [idx_of hF hk]

/-- the least cost of the answers -/
structure GLeast (F : List α) (adj : α → α → Bool) (half : α → Bool) (pr : α → Int) (P : (α → Int) → Prop) (t : Int) : Prop where
  ex : ∃ x, GAns F adj half x ∧ P x ∧ gcost F pr x = t
  le : ∀ x, GAns F adj half x → P x → t ≤ gcost F pr x

theorem Least.gleast {t : Int} (hF : F.Nodup) (hs : ∀ a b, adj a b = adj b a) (hA : ArcSpec F adj half A) (h : Least (F.map pr) A t) : GLeast F adj half pr (fun _ => True) t := by
  constructor
  · obtain ⟨S, hf, hc⟩ := h.ex
    rw [List.length_map, xOf_cost hF] at hc
    exact ⟨xOf F S, hf.gans hF hs hA, trivial, hc⟩
  · intro x G _
    have := h.le _ (G.feas hA)
    rw [List.length_map, G.cost] at this
    exact this

/-- some best choice gives the place a the value v just if some best answer does -/
theorem opt_val {t : Int} (hF : F.Nodup) (hs : ∀ a b, adj a b = adj b a) (hA : ArcSpec F adj half A) {i : Nat} {a : α} (hi : F[i]? = some a) {v : Int} :
    (∃ S, Opt (F.map pr) A t S ∧ val F.length S i = v) ↔ ∃ x, GAns F adj half x ∧ gcost F pr x = t ∧ x a = v := by
  constructor
  · rintro ⟨S, ⟨hf, hc⟩, hv⟩
    rw [List.length_map, xOf_cost hF] at hc
    exact ⟨xOf F S, hf.gans hF hs hA, hc, by unfold xOf; rw [idx_of hF hi]; exact hv⟩
  · rintro ⟨x, G, hc, hv⟩
    refine ⟨sOf F x, ⟨G.feas hA, ?_⟩, ?_⟩
    · rw [List.length_map, G.cost]; exact hc
    · have := G.rng a (List.mem_of_getElem? hi)
      rw [val_sOf hi this.1 this.2]; exact hv

/-- answers of a web -/
abbrev WebD.Ans (W : WebD α) (x : α → Int) : Prop := GAns W.N W.adj (fun _ => false) x
abbrev WebD.cost (W : WebD α) (x : α → Int) : Int := gcost W.N W.pr x
/-- t is the worth -/
abbrev WebD.Worth (W : WebD α) (t : Int) : Prop := GLeast W.N W.adj (fun _ => false) W.pr (fun _ => True) t
/-- t is the least cost of the answers that give p the value v -/
abbrev WebD.Forced (W : WebD α) (p : α) (v : Int) (t : Int) : Prop := GLeast W.N W.adj (fun _ => false) W.pr (fun x => x p = v) t
/-- some best answer gives p the value v -/
def WebD.Can (W : WebD α) (p : α) (v : Int) : Prop := ∃ x, W.Ans x ∧ (∃ t, W.Worth t ∧ W.cost x = t) ∧ x p = v

theorem GLeast.unique {P : (α → Int) → Prop} {t u : Int} (h : GLeast F adj half pr P t) (k : GLeast F adj half pr P u) : t = u := by
  obtain ⟨x, G, p, e⟩ := h.ex
  obtain ⟨y, G', p', e'⟩ := k.ex
  have := h.le y G' p'
  have := k.le x G p
  omega

theorem can_iff {W : WebD α} {p : α} {v t u : Int} (hw : W.Worth t) (hf : W.Forced p v u) : W.Can p v ↔ u = t := by
  constructor
  · rintro ⟨x, G, ⟨t', hw', e⟩, hv⟩
    have h1 := GLeast.unique hw hw'
    have h2 := hf.le x G hv
    obtain ⟨y, G', hy, e'⟩ := hf.ex
    have h3 := hw.le y G' trivial
    have e2 : gcost W.N W.pr x = t' := e
    omega
  · intro e
    subst e
    obtain ⟨x, G, hv, e⟩ := hf.ex
    exact ⟨x, G, ⟨u, hw, e⟩, hv⟩

/-- the places that are not pinned where p has the value v -/
def WebD.free (W : WebD α) (p : α) (v : Int) : List α := W.N.filter fun a => !(decide (a = p) || (decide (v = 0) && W.adj p a))
def WebD.spent (W : WebD α) (p : α) (v : Int) : Int := v * W.pr p + (if v = 0 then sumL (fun a => 2 * W.pr a) (W.N.filter (W.adj p)) else 0)
def WebD.halfAt (W : WebD α) (p : α) (v : Int) : α → Bool := fun a => decide (v = 1) && W.adj p a

theorem sumL_filter2 (f : α → Int) (p : α → Bool) : ∀ xs : List α, sumL f xs = sumL f (xs.filter p) + sumL f (xs.filter fun a => !(p a))
  | [] => rfl
  | x :: xs => by
    have ih := sumL_filter2 f p xs
    cases h : p x <;> simp [List.filter_cons, h, sumL] <;> omega

theorem sumL_filter_eq (f : α → Int) {p : α} : ∀ {xs : List α}, xs.Nodup → p ∈ xs → sumL f (xs.filter fun a => decide (a = p)) = f p
  | x :: xs, hn, hp => by
    have hn' := List.nodup_cons.mp hn
    by_cases e : x = p
    · subst e
      have : (xs.filter fun a => decide (a = x)) = [] := List.filter_eq_nil_iff.mpr (fun a ha => by
        intro q
        have := of_decide_eq_true q
        exact hn'.1 (this ▸ ha))
      simp [List.filter_cons, this, sumL]
    · rcases List.mem_cons.mp hp with rfl | hp
      · exact absurd rfl e
      · have := sumL_filter_eq f hn'.2 hp
        simp only [List.filter_cons, e, decide_false]
        exact this

theorem WebD.split_cost {W : WebD α} (ok : W.Ok) {p : α} (hp : p ∈ W.N) {v : Int} (x : α → Int) :
    W.cost x = W.pr p * x p + (if v = 0 then sumL (fun a => W.pr a * x a) (W.N.filter (W.adj p)) else 0) + gcost (W.free p v) W.pr x := by
  show sumL (fun a => W.pr a * x a) W.N = _
  rw [sumL_filter2 _ (fun a => decide (a = p)) W.N, sumL_filter_eq _ ok.nodup hp]
  by_cases hv : v = 0
  · rw [if_pos hv]
    rw [sumL_filter2 _ (fun a => W.adj p a) (W.N.filter fun a => !(decide (a = p)))]
    unfold gcost WebD.free
    rw [List.filter_filter, List.filter_filter]
    have e1 : (W.N.filter fun a => W.adj p a && !(decide (a = p))) = W.N.filter (W.adj p) := by
      refine List.filter_congr fun a _ => ?_
      by_cases e : a = p
      · subst e; rw [ok.irr]; rfl
      · simp [e]
    have e2 : (W.N.filter fun a => !(W.adj p a) && !(decide (a = p))) = W.N.filter fun a => !(decide (a = p) || (decide (v = 0) && W.adj p a)) := by
      refine List.filter_congr fun a _ => ?_
      simp only [hv, decide_true, Bool.true_and]
      cases W.adj p a <;> cases decide (a = p) <;> rfl
    rw [e1, e2]
    omega
  · rw [if_neg hv]
    unfold gcost WebD.free
    have e2 : (W.N.filter fun a => !(decide (a = p))) = W.N.filter fun a => !(decide (a = p) || (decide (v = 0) && W.adj p a)) := by
      refine List.filter_congr fun a _ => ?_
      simp [hv]
    rw [e2]
    omega

theorem mem_free {W : WebD α} {p : α} {v : Int} {a : α} : a ∈ W.free p v ↔ a ∈ W.N ∧ a ≠ p ∧ ¬ (v = 0 ∧ W.adj p a = true) := by
  unfold WebD.free
  rw [List.mem_filter]
  cases h1 : W.adj p a <;> by_cases h2 : a = p <;> by_cases h3 : v = 0 <;> simp [h1, h2, h3]

theorem forced_ok {W : WebD α} (ok : W.Ok) {p : α} (hp : p ∈ W.N) {v : Int} (hv0 : 0 ≤ v) (hv2 : v ≤ 2) {t : Int} (h : GLeast (W.free p v) W.adj (W.halfAt p v) W.pr (fun _ => True) t) :
    W.Forced p v (W.spent p v + t) := by
  constructor
  · obtain ⟨y, G, _, e⟩ := h.ex
    let x : α → Int := fun a => if a = p then v else if v = 0 ∧ W.adj p a = true then 2 else y a
    have xp : x p = v := if_pos rfl
    have xn : ∀ a, a ≠ p → v = 0 → W.adj p a = true → x a = 2 := fun a h1 h2 h3 => by
      show (if a = p then v else if v = 0 ∧ W.adj p a = true then 2 else y a) = 2
      rw [if_neg h1, if_pos ⟨h2, h3⟩]
    have xf : ∀ a, a ≠ p → ¬ (v = 0 ∧ W.adj p a = true) → x a = y a := fun a h1 h2 => by
      show (if a = p then v else if v = 0 ∧ W.adj p a = true then 2 else y a) = y a
      rw [if_neg h1, if_neg h2]
    have rng : ∀ a ∈ W.N, 0 ≤ x a ∧ x a ≤ 2 := fun a ha => by
      by_cases e1 : a = p
      · subst e1; rw [xp]; exact ⟨hv0, hv2⟩
      · by_cases e2 : v = 0 ∧ W.adj p a = true
        · rw [xn a e1 e2.1 e2.2]; decide
        · rw [xf a e1 e2]; exact G.rng a (mem_free.mpr ⟨ha, e1, e2⟩)
    have ptie : ∀ b ∈ W.N, W.adj p b = true → 2 ≤ x p + x b := fun b hb hab => by
      have hbp : b ≠ p := fun q => by rw [q, ok.irr] at hab; cases hab
      rw [xp]
      have hb2 := rng b hb
      by_cases v0 : v = 0
      · rw [xn b hbp v0 hab]; omega
      · by_cases v1 : v = 1
        · rw [xf b hbp (fun q => v0 q.1)]
          have := G.half b (mem_free.mpr ⟨hb, hbp, fun q => v0 q.1⟩) (by unfold WebD.halfAt; simp [v1, hab])
          omega
        · omega
    refine ⟨x, ⟨rng, fun a ha b hb hab => ?_, fun a _ hh => by cases hh⟩, xp, ?_⟩
    · by_cases e1 : a = p
      · subst e1; exact ptie b hb hab
      · by_cases e2 : b = p
        · subst e2
          have := ptie a ha ((ok.symm b a).trans hab)
          omega
        · have ha2 := rng a ha
          have hb2 := rng b hb
          by_cases f1 : v = 0 ∧ W.adj p a = true
          · rw [xn a e1 f1.1 f1.2]; omega
          · by_cases f2 : v = 0 ∧ W.adj p b = true
            · rw [xn b e2 f2.1 f2.2]; omega
            · rw [xf a e1 f1, xf b e2 f2]
              exact G.tie a (mem_free.mpr ⟨ha, e1, f1⟩) b (mem_free.mpr ⟨hb, e2, f2⟩) hab
    · show W.cost x = W.spent p v + t
      rw [W.split_cost ok hp (v := v) x, xp]
      unfold WebD.spent
      have c1 : gcost (W.free p v) W.pr x = gcost (W.free p v) W.pr y := sumL_congr fun a ha => by
        have := mem_free.mp ha
        rw [xf a this.2.1 this.2.2]
      rw [c1, e, Int.mul_comm (W.pr p) v]
      by_cases v0 : v = 0
      · rw [if_pos v0, if_pos v0]
        have c2 : sumL (fun a => W.pr a * x a) (W.N.filter (W.adj p)) = sumL (fun a => 2 * W.pr a) (W.N.filter (W.adj p)) := sumL_congr fun a ha => by
          have ha' := List.mem_filter.mp ha
          have hap : a ≠ p := fun q => by rw [q, ok.irr] at ha'; cases ha'.2
          rw [xn a hap v0 ha'.2, Int.mul_comm]
        rw [c2]
      · rw [if_neg v0, if_neg v0]
  · intro x G hx
    show W.spent p v + t ≤ W.cost x
    rw [W.split_cost ok hp (v := v) x, hx]
    have g : GAns (W.free p v) W.adj (W.halfAt p v) x := by
      refine ⟨fun a ha => G.rng a (mem_free.mp ha).1, fun a ha b hb => G.tie a (mem_free.mp ha).1 b (mem_free.mp hb).1, fun a ha hh => ?_⟩
      unfold WebD.halfAt at hh
      have hh' := (Bool.and_eq_true _ _).mp hh
      have h1 := of_decide_eq_true hh'.1
      have := G.tie p hp a (mem_free.mp ha).1 hh'.2
      omega
    have h1 := h.le x g trivial
    unfold WebD.spent
    rw [Int.mul_comm (W.pr p) v]
    by_cases v0 : v = 0
    · rw [if_pos v0, if_pos v0]
      have c2 : sumL (fun a => W.pr a * x a) (W.N.filter (W.adj p)) = sumL (fun a => 2 * W.pr a) (W.N.filter (W.adj p)) := sumL_congr fun a ha => by
        have ha' := List.mem_filter.mp ha
        have h2 := G.tie p hp a ha'.1 ha'.2
        have h3 := G.rng a ha'.1
        have : x a = 2 := by omega
        rw [this, Int.mul_comm]
      rw [c2]; omega
    · rw [if_neg v0, if_neg v0]; omega

/-- every value has an answer: 2 everywhere else -/
theorem forced_ex {W : WebD α} {p : α} {v : Int} (hv0 : 0 ≤ v) (hv2 : v ≤ 2) (ok : W.Ok) : ∃ x, W.Ans x ∧ x p = v := by
  refine ⟨fun a => if a = p then v else 2, ⟨fun a _ => ?_, fun a _ b _ hab => ?_, fun a _ h => by cases h⟩, if_pos rfl⟩
  · by_cases e : a = p
    · simp [e, hv0, hv2]
    · simp [e]
  · by_cases e1 : a = p
    · by_cases e2 : b = p
      · rw [e1, e2, ok.irr] at hab; cases hab
      · simp only [e1, e2, if_true, if_false]; omega
    · by_cases e2 : b = p
      · simp only [e1, e2, if_true, if_false]; omega
      · simp only [e1, e2, if_false]; omega
end
end HP

set_option linter.all false
namespace HP
section
variable {α : Type} [DecidableEq α]

/-- W is W1 beside W2, with the tie (a, b) where need is 2 -/
structure Joined (W1 W2 W : WebD α) (a b : α) (need : Int) : Prop where
  perm : W.N.Perm (W1.N ++ W2.N)
  disj : ∀ x ∈ W1.N, x ∉ W2.N
  pr1 : ∀ x ∈ W1.N, W.pr x = W1.pr x
  pr2 : ∀ x ∈ W2.N, W.pr x = W2.pr x
  ha : a ∈ W1.N
  hb : b ∈ W2.N
  in1 : ∀ x ∈ W1.N, ∀ y ∈ W1.N, W.adj x y = W1.adj x y
  in2 : ∀ x ∈ W2.N, ∀ y ∈ W2.N, W.adj x y = W2.adj x y
  cross : ∀ x ∈ W1.N, ∀ y ∈ W2.N, W.adj x y = (decide (need = 2) && (decide (x = a) && decide (y = b)))
  need2 : need = 2 ∨ need = 0

theorem Joined.swap {W1 W2 W : WebD α} {a b : α} {need : Int} (ok : W.Ok) (J : Joined W1 W2 W a b need) : Joined W2 W1 W b a need :=
  ⟨J.perm.trans List.perm_append_comm, fun x h2 h1 => J.disj x h1 h2, J.pr2, J.pr1, J.hb, J.ha, J.in2, J.in1, fun x hx y hy => by
    rw [ok.symm x y, J.cross y hy x hx, Bool.and_comm (decide (y = a))], J.need2⟩

variable {W1 W2 W : WebD α} {a b : α} {need : Int}

theorem Joined.cost (J : Joined W1 W2 W a b need) (x : α → Int) : W.cost x = W1.cost x + W2.cost x := by
  show sumL _ W.N = sumL _ W1.N + sumL _ W2.N
  rw [sumL_perm J.perm, sumL_append]
  congr 1
  · exact sumL_congr fun y hy => by rw [J.pr1 y hy]
  · exact sumL_congr fun y hy => by rw [J.pr2 y hy]

theorem Joined.mem (J : Joined W1 W2 W a b need) {x : α} : x ∈ W.N ↔ x ∈ W1.N ∨ x ∈ W2.N := by
  rw [J.perm.mem_iff, List.mem_append]

theorem Joined.ans1 (J : Joined W1 W2 W a b need) {x : α → Int} (G : W.Ans x) : W1.Ans x :=
  ⟨fun y hy => G.rng y (J.mem.mpr (.inl hy)), fun y hy z hz h => G.tie y (J.mem.mpr (.inl hy)) z (J.mem.mpr (.inl hz)) ((J.in1 y hy z hz).trans h), fun _ _ h => by cases h⟩
theorem Joined.ans2 (J : Joined W1 W2 W a b need) {x : α → Int} (G : W.Ans x) : W2.Ans x :=
  ⟨fun y hy => G.rng y (J.mem.mpr (.inr hy)), fun y hy z hz h => G.tie y (J.mem.mpr (.inr hy)) z (J.mem.mpr (.inr hz)) ((J.in2 y hy z hz).trans h), fun _ _ h => by cases h⟩
theorem Joined.sum (J : Joined W1 W2 W a b need) {x : α → Int} (G : W.Ans x) : need ≤ x a + x b := by
  have h1 := G.rng a (J.mem.mpr (.inl J.ha))
  have h2 := G.rng b (J.mem.mpr (.inr J.hb))
  rcases J.need2 with h | h
  · have := G.tie a (J.mem.mpr (.inl J.ha)) b (J.mem.mpr (.inr J.hb)) (by rw [J.cross a J.ha b J.hb]; simp [h])
    omega
  · omega

theorem Joined.glue (J : Joined W1 W2 W a b need) (ok : W.Ok) {x1 x2 : α → Int} (G1 : W1.Ans x1) (G2 : W2.Ans x2) (h : need ≤ x1 a + x2 b) : ∃ x, W.Ans x ∧ x a = x1 a ∧ x b = x2 b ∧ W.cost x = W1.cost x1 + W2.cost x2 := by
  let x : α → Int := fun c => if c ∈ W1.N then x1 c else x2 c
  have e1 : ∀ c ∈ W1.N, x c = x1 c := fun c hc => if_pos hc
  have e2 : ∀ c ∈ W2.N, x c = x2 c := fun c hc => if_neg fun q => J.disj c q hc
  have cr : ∀ y ∈ W1.N, ∀ z ∈ W2.N, W.adj y z = true → 2 ≤ x y + x z := fun y hy z hz hyz => by
    rw [J.cross y hy z hz] at hyz
    have q := (Bool.and_eq_true _ _).mp hyz
    have q2 := (Bool.and_eq_true _ _).mp q.2
    have n2 := of_decide_eq_true q.1
    have ya := of_decide_eq_true q2.1
    have zb := of_decide_eq_true q2.2
    subst ya zb
    rw [e1 _ hy, e2 _ hz]; omega
  refine ⟨x, ⟨fun c hc => ?_, fun y hy z hz hyz => ?_, fun _ _ h => by cases h⟩, e1 a J.ha, e2 b J.hb, ?_⟩
  · rcases J.mem.mp hc with h1 | h2
    · rw [e1 c h1]; exact G1.rng c h1
    · rw [e2 c h2]; exact G2.rng c h2
  · rcases J.mem.mp hy with y1 | y2 <;> rcases J.mem.mp hz with z1 | z2
    · rw [e1 y y1, e1 z z1]; exact G1.tie y y1 z z1 ((J.in1 y y1 z z1).symm.trans hyz)
    · exact cr y y1 z z2 hyz
    · have := cr z z1 y y2 ((ok.symm z y).trans hyz); omega
    · rw [e2 y y2, e2 z z2]; exact G2.tie y y2 z z2 ((J.in2 y y2 z z2).symm.trans hyz)
  · rw [J.cost]
    congr 1
    · exact sumL_congr fun c hc => by rw [e1 c hc]
    · exact sumL_congr fun c hc => by rw [e2 c hc]

theorem Joined.forced (J : Joined W1 W2 W a b need) (ok : W.Ok) {u w : Int → Int} (hu : ∀ i, 0 ≤ i → i ≤ 2 → W1.Forced a i (u i)) (hw : ∀ j, 0 ≤ j → j ≤ 2 → W2.Forced b j (w j))
    {i m : Int} (hi0 : 0 ≤ i) (hi2 : i ≤ 2) (hm : ∃ j, 0 ≤ j ∧ j ≤ 2 ∧ need ≤ i + j ∧ w j = m) (hle : ∀ j, 0 ≤ j → j ≤ 2 → need ≤ i + j → m ≤ w j) : W.Forced a i (u i + m) := by
  constructor
  · obtain ⟨j, hj0, hj2, hn, rfl⟩ := hm
    obtain ⟨x1, G1, v1, c1⟩ := (hu i hi0 hi2).ex
    obtain ⟨x2, G2, v2, c2⟩ := (hw j hj0 hj2).ex
    obtain ⟨x, G, va, _, c⟩ := J.glue ok G1 G2 (by rw [v1, v2]; exact hn)
    exact ⟨x, G, va.trans v1, by
      show W.cost x = _
      rw [c]
      show gcost _ _ _ + gcost _ _ _ = _
      rw [c1, c2]⟩
  · intro x G hx
    have h1 := (hu i hi0 hi2).le x (J.ans1 G) hx
    have hb := G.rng b (J.mem.mpr (.inr J.hb))
    have h2 := (hw (x b) hb.1 hb.2).le x (J.ans2 G) rfl
    have h3 := J.sum G
    have h4 := hle (x b) hb.1 hb.2 (by rw [← hx]; exact h3)
    have e := J.cost x
    show u i + m ≤ W.cost x
    rw [e]
    show u i + m ≤ gcost _ _ _ + gcost _ _ _
    omega

theorem worth_of_forced {T : Int → Int} {t : Int} (ha : a ∈ W.N) (hf : ∀ i, 0 ≤ i → i ≤ 2 → W.Forced a i (T i)) (ht : ∃ i, 0 ≤ i ∧ i ≤ 2 ∧ T i = t) (hle : ∀ i, 0 ≤ i → i ≤ 2 → t ≤ T i) : W.Worth t := by
  constructor
  · obtain ⟨i, h0, h2, rfl⟩ := ht
    obtain ⟨x, G, _, c⟩ := (hf i h0 h2).ex
    exact ⟨x, G, trivial, c⟩
  · intro x G _
    have h := G.rng a ha
    have h1 := (hf (x a) h.1 h.2).le x G rfl
    have h2 := hle (x a) h.1 h.2
    omega
end
end HP

set_option linter.all false
namespace HP
/-! ### lists by their places -/
def lmap {α : Type} (n : Nat) (f : Nat → α) : List α := (List.range n).map f
section
variable {α β : Type} {n : Nat} {f g : Nat → α}
theorem lmap_length : (lmap n f).length = n := by simp [lmap]
theorem lmap_get {i : Nat} (h : i < n) : (lmap n f)[i]? = some (f i) := by simp [lmap, h]
theorem lmap_get' {i : Nat} {x : α} (h : (lmap n f)[i]? = some x) : i < n ∧ x = f i := by
  have hl : i < n := by
    have := (List.getElem?_eq_some_iff.mp h).1
    rwa [lmap_length] at this
  rw [lmap_get hl] at h
  exact ⟨hl, (Option.some.inj h).symm⟩
theorem lmap_congr (h : ∀ i, i < n → f i = g i) : lmap n f = lmap n g := by
  unfold lmap
  exact List.map_congr_left fun i hi => h i (List.mem_range.mp hi)
theorem lmap_snoc : lmap (n + 1) f = lmap n f ++ [f n] := by simp [lmap, List.range_succ]
theorem lmap_map (k : α → β) : (lmap n f).map k = lmap n (fun i => k (f i)) := by simp [lmap]
theorem lmap_set {i : Nat} {x : α} (h : i < n) : (lmap n f).set i x = lmap n (fun j => if j = i then x else f j) := by
  apply List.ext_getElem?
  intro j
  by_cases hj : j < n
  · rw [lmap_get hj]
    by_cases e : i = j
    · subst e
      rw [List.getElem?_set_self (by rw [lmap_length]; exact h), if_pos rfl]
    · rw [List.getElem?_set_ne e, lmap_get hj, if_neg (fun q => e q.symm)]
  · rw [List.getElem?_eq_none (by rw [List.length_set, lmap_length]; omega), List.getElem?_eq_none (by rw [lmap_length]; omega)]
theorem lmap_of (xs : List α) (d : α) : xs = lmap xs.length (fun i => xs.getD i d) := by
  apply List.ext_getElem?
  intro j
  by_cases hj : j < xs.length
  · rw [lmap_get hj, List.getD_eq_getElem?_getD, List.getElem?_eq_getElem hj]; rfl
  · rw [List.getElem?_eq_none (by omega), List.getElem?_eq_none (by rw [lmap_length]; omega)]
theorem lmap_const_replicate {x : α} : lmap n (fun _ => x) = List.replicate n x := by
  apply List.ext_getElem?
  intro j
  by_cases hj : j < n
  · rw [lmap_get hj]; simp [hj]
  · rw [List.getElem?_eq_none (by rw [lmap_length]; omega), List.getElem?_eq_none (by simp; omega)]
theorem lmap_take {m : Nat} (h : m ≤ n) : (lmap n f).take m = lmap m f := by
  unfold lmap
  rw [← List.map_take, List.take_range, Nat.min_eq_left h]
theorem lmap_mem {x : α} : x ∈ lmap n f ↔ ∃ i, i < n ∧ f i = x := by
  unfold lmap; simp
end
/-! ### one more edge -/
theorem tailOf_old {E : List Edge} {x : Edge} {e : Nat} (h : e < 2 * E.length) : tailOf (E ++ [x]) e = tailOf E e := by
  unfold tailOf
  rw [List.getD_eq_getElem?_getD, List.getD_eq_getElem?_getD, List.getElem?_append_left (by omega)]
theorem headOf_old {E : List Edge} {x : Edge} {e : Nat} (h : e < 2 * E.length) : headOf (E ++ [x]) e = headOf E e := by
  unfold headOf
  rw [List.getD_eq_getElem?_getD, List.getD_eq_getElem?_getD, List.getElem?_append_left (by omega)]
theorem roomOf_old {E : List Edge} {x : Edge} {e : Nat} (h : e < 2 * E.length) : roomOf (E ++ [x]) e = roomOf E e := by
  unfold roomOf
  rw [List.getD_eq_getElem?_getD, List.getD_eq_getElem?_getD, List.getElem?_append_left (by omega)]
theorem new_get {E : List Edge} {x : Edge} : (E ++ [x]).getD E.length default = x := by
  rw [List.getD_eq_getElem?_getD, List.getElem?_append_right (Nat.le_refl _), Nat.sub_self]; rfl
theorem tailOf_new0 {E : List Edge} {x : Edge} : tailOf (E ++ [x]) (2 * E.length) = x.tl := by
  unfold tailOf
  rw [if_pos (by omega), show 2 * E.length / 2 = E.length by omega, new_get]
theorem tailOf_new1 {E : List Edge} {x : Edge} : tailOf (E ++ [x]) (2 * E.length + 1) = x.hd := by
  unfold tailOf
  rw [if_neg (by omega), show (2 * E.length + 1) / 2 = E.length by omega, new_get]
theorem headOf_new0 {E : List Edge} {x : Edge} : headOf (E ++ [x]) (2 * E.length) = x.hd := by
  unfold headOf
  rw [if_pos (by omega), show 2 * E.length / 2 = E.length by omega, new_get]
theorem headOf_new1 {E : List Edge} {x : Edge} : headOf (E ++ [x]) (2 * E.length + 1) = x.tl := by
  unfold headOf
  rw [if_neg (by omega), show (2 * E.length + 1) / 2 = E.length by omega, new_get]
theorem roomOf_new0 {E : List Edge} {x : Edge} : roomOf (E ++ [x]) (2 * E.length) = x.cp := by
  unfold roomOf
  rw [if_pos (by omega), show 2 * E.length / 2 = E.length by omega, new_get]
theorem roomOf_new1 {E : List Edge} {x : Edge} : roomOf (E ++ [x]) (2 * E.length + 1) = 0 := by
  unfold roomOf
  rw [if_neg (by omega)]
def outs (E : List Edge) (v : Nat) : List Nat := (List.range (2 * E.length)).filter fun e => decide (tailOf E e = v)
theorem mem_outs {E : List Edge} {v e : Nat} : e ∈ outs E v ↔ e < 2 * E.length ∧ tailOf E e = v := by
  unfold outs; rw [List.mem_filter, List.mem_range, decide_eq_true_eq]
theorem outs_length {E : List Edge} {v : Nat} : (outs E v).length ≤ 2 * E.length := by
  unfold outs
  refine Nat.le_trans (List.length_filter_le _ _) (by simp)
theorem outs_nil {v : Nat} : outs [] v = [] := rfl
theorem outs_snoc {E : List Edge} {x : Edge} {v : Nat} : outs (E ++ [x]) v = (outs E v ++ (if x.tl = v then [2 * E.length] else [])) ++ (if x.hd = v then [2 * E.length + 1] else []) := by
  unfold outs
  rw [show 2 * (E ++ [x]).length = 2 * E.length + 1 + 1 by simp; omega, List.range_succ, List.range_succ, List.filter_append, List.filter_append]
  congr 1
  · congr 1
    · refine List.filter_congr fun e he => ?_
      rw [tailOf_old (List.mem_range.mp he)]
    · rw [List.filter_cons, List.filter_nil, tailOf_new0]
      by_cases h : x.tl = v <;> simp [h]
  · rw [List.filter_cons, List.filter_nil, tailOf_new1]
    by_cases h : x.hd = v <;> simp [h]
/-- the nodes of the edges are nodes -/
def EIn (N : Nat) (E : List Edge) : Prop := ∀ x ∈ E, x.tl < N ∧ x.hd < N
theorem EIn.get {N : Nat} {E : List Edge} (h : EIn N E) {k : Nat} (hk : k < E.length) : (E.getD k default).tl < N ∧ (E.getD k default).hd < N := by
  rw [List.getD_eq_getElem?_getD, List.getElem?_eq_getElem hk]
  exact h _ (List.getElem_mem hk)
theorem EIn.head {N : Nat} {E : List Edge} (h : EIn N E) {e : Nat} (he : e < 2 * E.length) : headOf E e < N := by
  have := h.get (k := e / 2) (by omega)
  unfold headOf; split <;> omega
theorem EIn.tail {N : Nat} {E : List Edge} (h : EIn N E) {e : Nat} (he : e < 2 * E.length) : tailOf E e < N := by
  have := h.get (k := e / 2) (by omega)
  unfold tailOf; split <;> omega

theorem nodup_length {N : Nat} : ∀ {l : List Nat}, l.Nodup → (∀ v ∈ l, v < N) → l.length ≤ N := by
  induction N with
  | zero =>
    intro l _ h
    cases l with
    | nil => exact Nat.le_refl _
    | cons a l => exact absurd (h a (List.mem_cons_self ..)) (by omega)
  | succ N ih =>
    intro l hn h
    have h1 := ih (l := l.filter fun v => decide (v ≠ N)) (hn.filter _) (fun v hv => by
      have := List.mem_filter.mp hv
      have h2 := h v this.1
      have h3 : v ≠ N := of_decide_eq_true this.2
      omega)
    have h2 : (l.filter fun v => !(decide (v ≠ N))).length ≤ 1 := by
      have e : (l.filter fun v => !(decide (v ≠ N))).Nodup := hn.filter _
      have a : ∀ v ∈ (l.filter fun v => !(decide (v ≠ N))), v = N := fun v hv => by
        have := (List.mem_filter.mp hv).2
        simpa using this
      match (l.filter fun v => !(decide (v ≠ N))), e, a with
      | [], _, _ => simp
      | [_], _, _ => simp
      | x :: y :: r, e, a =>
        have hx := a x (List.mem_cons_self ..)
        have hy := a y (List.mem_cons_of_mem _ (List.mem_cons_self ..))
        have := (List.nodup_cons.mp e).1
        rw [hx, hy] at this
        exact absurd (List.mem_cons_self ..) this
    have h3 : l.length = (l.filter fun v => decide (v ≠ N)).length + (l.filter fun v => !(decide (v ≠ N))).length := by
      rw [← List.length_append]
      exact (List.filter_append_perm (fun v => decide (v ≠ N)) l).length_eq.symm
    omega

theorem hnd_inj {α : Type} {l : List α} (h : l.Nodup) {i j : Nat} (hi : i < l.length) (hj : j < l.length) (e : l[i] = l[j]) : i = j := by
  rw [List.nodup_iff_pairwise_ne] at h
  rw [List.pairwise_iff_getElem] at h
  rcases Nat.lt_trichotomy i j with q | q | q
  · exact absurd e (h i j hi hj q)
  · exact q
  · exact absurd e.symm (h j i hj hi q)
/-! ### a search in breadth: f the edge by which a node was met, wt the nodes met -/
structure Bfs (E : List Edge) (r : Nat → Int) (N src : Nat) (f : Nat → Int) (wt : List Nat) : Prop where
  hd : wt[0]? = some src
  nd : wt.Nodup
  lt : ∀ v ∈ wt, v < N
  fsrc : f src < 0
  mem : ∀ v, v ≠ src → (0 ≤ f v ↔ v ∈ wt)
  back : ∀ i v, wt[i]? = some v → 0 < i → ∃ e j : Nat, f v = (e : Int) ∧ e < 2 * E.length ∧ headOf E e = v ∧ 0 < r e ∧ j < i ∧ wt[j]? = some (tailOf E e)

theorem Bfs.start {E : List Edge} {r : Nat → Int} {N src : Nat} (h : src < N) : Bfs E r N src (fun _ => -1) [src] := by
  refine ⟨rfl, by simp, by simp [h], by decide, fun v hv => ?_, fun i v hi h0 => ?_⟩
  · simp [hv]
  · have := (List.getElem?_eq_some_iff.mp hi).1
    simp at this; omega

theorem Bfs.visit {E : List Edge} {r : Nat → Int} {N src : Nat} {f : Nat → Int} {wt : List Nat} (B : Bfs E r N src f wt) {e j : Nat} (he : e < 2 * E.length) (hj : wt[j]? = some (tailOf E e)) (hr : 0 < r e) (hN : headOf E e < N) (hs : headOf E e ≠ src) (hf : f (headOf E e) < 0) :
    Bfs E r N src (fun v => if v = headOf E e then (e : Int) else f v) (wt ++ [headOf E e]) := by
  have hnot : headOf E e ∉ wt := fun q => by have := (B.mem _ hs).mpr q; omega
  have hw : 0 < wt.length := (List.getElem?_eq_some_iff.mp B.hd).1
  refine ⟨by rw [List.getElem?_append_left hw]; exact B.hd, ?_, fun v hv => ?_, ?_, fun v hv => ?_, fun i v hi h0 => ?_⟩
  · rw [List.nodup_append]
    refine ⟨B.nd, by simp, fun a ha b hb => ?_⟩
    rw [List.mem_singleton] at hb
    rintro rfl
    exact hnot (hb ▸ ha)
  · rcases List.mem_append.mp hv with h | h
    · exact B.lt v h
    · rw [List.mem_singleton.mp h]; exact hN
  · show (if src = headOf E e then (e : Int) else f src) < 0
    rw [if_neg (Ne.symm hs)]; exact B.fsrc
  · show 0 ≤ (if v = headOf E e then (e : Int) else f v) ↔ _
    by_cases h : v = headOf E e
    · rw [if_pos h, h]
      refine ⟨fun _ => List.mem_append.mpr (.inr (List.mem_singleton.mpr rfl)), fun _ => by omega⟩
    · rw [if_neg h, B.mem v hv, List.mem_append, List.mem_singleton]
      exact ⟨.inl, fun q => q.elim id fun z => absurd z h⟩
  · by_cases hl : i < wt.length
    · rw [List.getElem?_append_left hl] at hi
      obtain ⟨e', j', h1, h2, h3, h4, h5, h6⟩ := B.back i v hi h0
      have hvne : v ≠ headOf E e := fun q => hnot (q ▸ List.mem_of_getElem? hi)
      refine ⟨e', j', ?_, h2, h3, h4, h5, ?_⟩
      · show (if v = headOf E e then (e : Int) else f v) = _
        rw [if_neg hvne]; exact h1
      · rw [List.getElem?_append_left (by omega)]; exact h6
    · have hl' := (List.getElem?_eq_some_iff.mp hi).1
      rw [List.length_append, List.length_singleton] at hl'
      have ei : i = wt.length := by omega
      subst ei
      rw [List.getElem?_append_right (Nat.le_refl _), Nat.sub_self] at hi
      have ev : headOf E e = v := by simpa using hi
      subst ev
      refine ⟨e, j, ?_, he, rfl, hr, (List.getElem?_eq_some_iff.mp hj).1, ?_⟩
      · show (if headOf E e = headOf E e then (e : Int) else _) = _
        rw [if_pos rfl]
      · rw [List.getElem?_append_left (List.getElem?_eq_some_iff.mp hj).1]; exact hj

/-- all room that leaves the first k nodes met leads to nodes met -/
def Seen (E : List Edge) (r : Nat → Int) (wt : List Nat) (k : Nat) : Prop := ∀ i v, i < k → wt[i]? = some v → ∀ e, e < 2 * E.length → tailOf E e = v → 0 < r e → headOf E e ∈ wt
theorem Seen.more {E : List Edge} {r : Nat → Int} {wt ws : List Nat} {k : Nat} (h : Seen E r wt k) (hk : k ≤ wt.length) : Seen E r (wt ++ ws) k := fun i v hi hv e he ht hr => by
  rw [List.getElem?_append_left (by omega)] at hv
  exact List.mem_append.mpr (.inl (h i v hi hv e he ht hr))

/-- the search has ended without the sink -/
theorem Bfs.cut {E : List Edge} {r : Nat → Int} {N src snk : Nat} {f : Nat → Int} {wt : List Nat} (B : Bfs E r N src f wt) (hs : Seen E r wt wt.length) (hne : snk ≠ src) (hk : f snk < 0) (hp : ∀ i, 0 ≤ r i) : ∃ S, Parts src snk S ∧ rescut E S r = 0 := by
  have hw : 0 < wt.length := (List.getElem?_eq_some_iff.mp B.hd).1
  refine ⟨fun v => decide (v ∈ wt), ⟨decide_eq_true (List.mem_of_getElem? B.hd), decide_eq_false fun q => by have := (B.mem snk hne).mpr q; omega⟩, rescut_zero fun e he ht hh => ?_⟩
  have ht := of_decide_eq_true ht
  have hh := of_decide_eq_false hh
  obtain ⟨i, hi, hv⟩ := List.mem_iff_getElem.mp ht
  have := hp e
  rcases Int.lt_or_le 0 (r e) with h | h
  · exact absurd (hs i _ hi (List.getElem?_eq_getElem hi) e he hv.symm h) hh
  · omega

/-- the way back from the sink, so far as node -/
structure Way (E : List Edge) (r : Nat → Int) (snk : Nat) (wt : List Nat) (node i : Nat) (path : List Nat) : Prop where
  at_ : wt[i]? = some node
  chain : Chain E snk path node
  nd : path.Nodup
  ok : ∀ e ∈ path, e < 2 * E.length ∧ 0 < r e ∧ ∃ k, i < k ∧ wt[k]? = some (headOf E e)
theorem Way.start {E : List Edge} {r : Nat → Int} {snk : Nat} {wt : List Nat} {i : Nat} (h : wt[i]? = some snk) : Way E r snk wt snk i [] := ⟨h, rfl, List.nodup_nil, fun _ h => by cases h⟩
theorem Way.next {E : List Edge} {r : Nat → Int} {snk : Nat} {wt : List Nat} {node i e j : Nat} {path : List Nat} (W : Way E r snk wt node i path) (hnd : wt.Nodup) (he : e < 2 * E.length) (hh : headOf E e = node) (hr : 0 < r e) (hj : j < i) (hw : wt[j]? = some (tailOf E e)) :
    Way E r snk wt (tailOf E e) j (path ++ [e]) := by
  refine ⟨hw, W.chain.snoc hh, ?_, fun x hx => ?_⟩
  · rw [List.nodup_append]
    refine ⟨W.nd, by simp, fun a ha b hb => ?_⟩
    rw [List.mem_singleton] at hb
    rintro rfl
    subst hb
    obtain ⟨_, _, k, hk, hk2⟩ := W.ok _ ha
    rw [hh] at hk2
    have h1 := (List.getElem?_eq_some_iff.mp hk2)
    have h2 := (List.getElem?_eq_some_iff.mp W.at_)
    obtain ⟨l1, e1⟩ := h1
    obtain ⟨l2, e2⟩ := h2
    have := hnd_inj hnd l1 l2 (e1.trans e2.symm)
    omega
  · rcases List.mem_append.mp hx with h | h
    · obtain ⟨h1, h2, k, hk, hk2⟩ := W.ok x h
      exact ⟨h1, h2, k, by omega, hk2⟩
    · rw [List.mem_singleton.mp h]
      exact ⟨he, hr, i, hj, by rw [hh]; exact W.at_⟩

/-- what is wanted of a path of the search: none, and some cut is full; or a way from the sink back to the source -/
def PathOk (E : List Edge) (r : Nat → Int) (src snk : Nat) (path : List Nat) : Prop :=
  (path = [] ∧ ∃ S, Parts src snk S ∧ rescut E S r = 0) ∨ (path ≠ [] ∧ Chain E snk path src ∧ path.Nodup ∧ ∀ e ∈ path, e < 2 * E.length ∧ 0 < r e)

/-! ### the closure of some nodes -/
structure Clo (E : List Edge) (r : Nat → Int) (N : Nat) (st wt : List Nat) : Prop where
  nd : wt.Nodup
  lt : ∀ v ∈ wt, v < N
  sub : ∀ v ∈ st, v ∈ wt
  least : ∀ S : Nat → Bool, (∀ v ∈ st, S v = true) → (∀ e, e < 2 * E.length → S (tailOf E e) = true → 0 < r e → S (headOf E e) = true) → ∀ v ∈ wt, S v = true
theorem Clo.start {E : List Edge} {r : Nat → Int} {N : Nat} {st : List Nat} (hn : st.Nodup) (hl : ∀ v ∈ st, v < N) : Clo E r N st st := ⟨hn, hl, fun _ h => h, fun S h _ => h⟩
theorem Clo.visit {E : List Edge} {r : Nat → Int} {N : Nat} {st wt : List Nat} (B : Clo E r N st wt) {e : Nat} (he : e < 2 * E.length) (ht : tailOf E e ∈ wt) (hr : 0 < r e) (hN : headOf E e < N) (hh : headOf E e ∉ wt) : Clo E r N st (wt ++ [headOf E e]) := by
  refine ⟨?_, fun v hv => ?_, fun v hv => List.mem_append.mpr (.inl (B.sub v hv)), fun S h1 h2 v hv => ?_⟩
  · rw [List.nodup_append]
    refine ⟨B.nd, by simp, fun a ha b hb => ?_⟩
    rw [List.mem_singleton] at hb
    rintro rfl
    exact hh (hb ▸ ha)
  · rcases List.mem_append.mp hv with h | h
    · exact B.lt v h
    · rw [List.mem_singleton.mp h]; exact hN
  · rcases List.mem_append.mp hv with h | h
    · exact B.least S h1 h2 v h
    · rw [List.mem_singleton.mp h]
      exact h2 e he (B.least S h1 h2 _ ht) hr
theorem Clo.reach {E : List Edge} {r : Nat → Int} {N src : Nat} {nodes wt : List Nat} (B : Clo E r N (src :: nodes) wt) (hs : Seen E r wt wt.length) : Reach E r src nodes (fun v => decide (v ∈ wt)) := by
  refine ⟨decide_eq_true (B.sub _ (List.mem_cons_self ..)), fun k hk => decide_eq_true (B.sub _ (List.mem_cons_of_mem _ hk)), fun e he ht hr => ?_, fun S h1 h2 h3 k hk => ?_⟩
  · have ht := of_decide_eq_true ht
    obtain ⟨i, hi, hv⟩ := List.mem_iff_getElem.mp ht
    exact decide_eq_true (hs i _ hi (List.getElem?_eq_getElem hi) e he hv.symm hr)
  · refine B.least S (fun v hv => ?_) h3 k (of_decide_eq_true hk)
    rcases List.mem_cons.mp hv with rfl | h
    · exact h1
    · exact h2 v h
end HP

set_option Elab.async false
set_option linter.all false
set_option maxRecDepth 100000
set_option maxHeartbeats 2000000
/-! Rules that the layer lacks. -/
namespace HW
open PySem PySem.Spec PyProof.Rows L2
section
variable {X : Cx}
/-! ### reading an item for xs[i] op= e -/
theorem get_list : PGet X (rIxL X.K) := by
  intro pins s σ H o i ov iv Q I ro ri h
  obtain ⟨p, xs, k, z, rfl, rfl, hq, he, q⟩ := h
  cases ro
  obtain ⟨t, rfl⟩ := ri
  obtain ⟨its, r, pl, hz⟩ := I.list hq
  obtain ⟨j, h1, h2, h3, h4, h5⟩ := atI_get he
  obtain ⟨w, ew, rw'⟩ := r.get h2
  have hl := r.length
  have hn := line63
  have fin : EP X pins σ Q w s := ⟨z, H, I, rw', q⟩
  by_cases h0 : 0 ≤ k
  · have hj : k.toNat = j := by
      rw [seqIndex_of h0 h5] at h1
      exact Option.some.inj h1
    exact wpAny_getItem_list pl.isList h0 (by omega) (by rw [hj]; simpa using ew) fin
  · have hj : (k + (its.toArray.size : Int)).toNat = j := by
      rw [seqIndex_neg (by omega) h4] at h1
      rw [List.size_toArray, ← hl]
      exact Option.some.inj h1
    exact wpAny_getItem_list_neg pl.isList (by omega) (by rw [List.size_toArray] <;> omega) (by omega) (by rw [hj]; simpa using ew) fin

/-! ### in, not in, + by the class's own methods -/
/-- what a class must have that its instances may be asked by in -/
structure OwnM (K : PySem.W.Frag) (C : Addr) (m : Str) (g : Addr) : Prop where
  at_ : PySem.W.findIn K (.ref C) m = some (some (.ref g))
  fn : PySem.W.isFn K (.ref g) = true

def rInO (C : Addr) (sp : Sp) (E : XK) (neg : Bool) : R2 := fun x y H Q => ∃ a dx fs, y = .ref a ∧ H a = some (.ins C dx fs) ∧ sp [.ref a, x] H (fun r H' => ∃ b, r = .bl b ∧ Q (.bl (if neg then !b else b)) H') E
variable {CX : CXT} {k : Nat} {C g : Addr} {fd : FuncData} {ps : List Str} {sp : Sp} {E : XK}
theorem contains_own {pins : List (Addr × Obj)} {σ : L2.St} {H : Hp} {s : Shared} {a dx : Addr} {fs : List (Str × V)} {x : V} {v : Value} {Q : Bool → Hp → Prop} (c : OwnM X.K C "__contains__" g) (F : FnOk X.prog X.w X.K X.mg X.base CX k g fd ps sp) (hr : Room k X.A) (hb : Binds X.K fd ps []) (hx : Passes CX X E)
    (I : Inv X pins σ H s) (ea : H a = some (.ins C dx fs)) (rv : RelV x v) (h : sp [.ref a, x] H (fun r H' => ∃ b, r = .bl b ∧ Q b H') E) :
    wpAny (model X.prog X.w) X.A (contains (.ref a) v) (TP X pins σ Q) X.xe s := by
  obtain ⟨mA, O, _⟩ := ins_get I.hok ea
  obtain ⟨od, J, _⟩ := O.look
  have KX := I.kIn
  unfold contains
  refine wpAny_holding (wpAny_bind (wpAny_bind (J.type.here ((PySem.W.looks_findIn KX c.at_).here ?_))))
  rw [if_neg (by simp)]
  refine wpAny_bind (PySem.W.unlessNone_K KX J c.at_ c.fn ?_)
  refine wpAny_mono (run_fn (us := [.ref a, v]) (vs := [.ref a, x]) (dvs := []) (ds := []) F hr hb .nil hx I (.cons rfl (.cons rv .nil)) (by rw [List.append_nil]; exact h)) (fun r s' hq => ?_) fun _ _ z => z
  obtain ⟨v', H', I', rv', b, rfl, q⟩ := hq
  cases rv'
  exact wpAny_pure ⟨H', I', q⟩
theorem op_inO (c : OwnM X.K C "__contains__" g) (F : FnOk X.prog X.w X.K X.mg X.base CX k g fd ps sp) (hr : Room k X.A) (hb : Binds X.K fd ps []) (hx : Passes CX X E) : OpR X (compareOp .In) (rInO C sp E false) := by
  intro pins s σ H x y v u Q I rx ry h
  obtain ⟨a, dx, fs, rfl, ea, h⟩ := h
  cases ry
  refine wpAny_bind (wpAny_mono (contains_own c F hr hb hx I ea rx h) (fun b s' hq => wpAny_pure ?_) fun _ _ z => z)
  obtain ⟨H', I', q⟩ := hq
  exact ⟨.bl b, H', I', rfl, q⟩
theorem op_notInO (c : OwnM X.K C "__contains__" g) (F : FnOk X.prog X.w X.K X.mg X.base CX k g fd ps sp) (hr : Room k X.A) (hb : Binds X.K fd ps []) (hx : Passes CX X E) : OpR X (compareOp .NotIn) (rInO C sp E true) := by
  intro pins s σ H x y v u Q I rx ry h
  obtain ⟨a, dx, fs, rfl, ea, h⟩ := h
  cases ry
  refine wpAny_bind (wpAny_mono (contains_own c F hr hb hx I ea rx h) (fun b s' hq => wpAny_pure ?_) fun _ _ z => z)
  obtain ⟨H', I', q⟩ := hq
  exact ⟨.bl (!b), H', I', rfl, q⟩
/-- x + y of two instances of one class -/
def rAddO (C : Addr) (sp : Sp) (E : XK) : R2 := fun x y H Q => ∃ a dx fs b dy gs, x = .ref a ∧ y = .ref b ∧ H a = some (.ins C dx fs) ∧ H b = some (.ins C dy gs) ∧ sp [.ref a, .ref b] H (fun r H' => (∃ p, r = .ref p) ∧ Q r H') E
theorem op_addO (c : OwnM X.K C "__add__" g) (hf : PySem.W.selfFirst X.K C = true) (F : FnOk X.prog X.w X.K X.mg X.base CX k g fd ps sp) (hr : Room k X.A) (hb : Binds X.K fd ps []) (hx : Passes CX X E) : OpR X (binaryOp .Add) (rAddO C sp E) := by
  intro pins s σ H x y v u Q I rx ry h
  obtain ⟨a, dx, fs, b, dy, gs, rfl, rfl, ea, eb, h⟩ := h
  cases rx
  cases ry
  obtain ⟨mA, O, _⟩ := ins_get I.hok ea
  obtain ⟨od, J, _⟩ := O.look
  obtain ⟨mB, O2, _⟩ := ins_get I.hok eb
  obtain ⟨od2, J2, _⟩ := O2.look
  have KX := I.kIn
  obtain ⟨cd, hcd, hm⟩ := PySem.W.any_some hf
  obtain ⟨rest, hm⟩ : ∃ rest, cd.mro = .ref C :: rest := by
    cases q : cd.mro with
    | nil => rw [q] at hm; cases hm
    | cons a r => rw [q] at hm; exact ⟨r, by rw [List.head?_cons] at hm; cases (beq_iff_eq.mp hm); rfl⟩
  unfold binaryOp
  refine wpAny_holding (wpAny_bind ?_)
  unfold binaryOp1
  refine wpAny_bind (J.type.here (wpAny_bind (J2.type.here (wpAny_bind ((PySem.W.fills_K KX hcd hm (nm := "add") c.at_).here ?_)))))
  simp only [beq_self_eq_true, if_true]
  refine wpAny_bind (wpAny_pure ?_)
  simp only [Bool.and_false, Bool.false_eq_true, if_false, Bool.false_and]
  refine wpAny_bind (wpAny_pure ?_)
  simp only [Bool.false_eq_true, if_false]
  refine wpAny_bind (m := tryMethod (.ref a) _ (.ref b)) ?_
  unfold tryMethod
  refine wpAny_bind (PySem.W.special_fn KX J c.at_ (beq_iff_eq.mp c.fn) (wpAny_mono (run_fn (us := [.ref a, .ref b]) (vs := [.ref a, .ref b]) (dvs := []) (ds := []) F hr hb .nil hx I (.cons rfl (.cons rfl .nil)) (by rw [List.append_nil]; exact h)) (fun v s' hv => ?_) fun _ _ e => e))
  obtain ⟨v', H', I', rv', ⟨p, rfl⟩, q⟩ := hv
  cases rv'
  exact wpAny_pure (wpAny_pure (wpAny_pure ⟨.ref p, H', I', rfl, q⟩))
end
end HW

set_option Elab.async false
set_option linter.all false
set_option maxRecDepth 100000
set_option maxHeartbeats 2000000
namespace HW
open PySem PySem.Spec PyProof.Rows L2
/-! ### a dict comprehension over any walk; name = {..} -/
theorem dc_it {J : It} {n : Nat} {G : Hp → Prop} {Y : Nat → Hp → V → Hp → Prop} (w : Walk J n G Y) {g : TG} {tt : TT} {tk tv : TE} {vs : List Nat} {σ : L2.St} {H1 : Hp} {D : Addr} {Qd : Hp → Prop} (Pv : Nat → Hp → Prop) (h0 : Pv 0 (upd H1 D (.dK []))) (hG : ∀ i H, i ≤ n → Pv i H → G H)
    (hs : ∀ i x H H', i < n → Pv i H → Y i H x H' → g x (wipe σ vs) H' fun σ2 H2 => wipe σ2 vs = wipe σ vs ∧ tt σ2 H2 fun b H3 =>
      if b = true then tk σ2 H3 fun y H4 => tv σ2 H4 fun z H5 => ∃ kvs k, y = kV k ∧ H5 D = some (.dK kvs) ∧ kvs.length < sizeLine ∧ Pv (i + 1) (upd H5 D (.dK (putK kvs k z))) else Pv (i + 1) H3) (hd : ∀ H, Pv n H → Qd H) :
    ∃ W : Nat → Nat → Hp → Prop, (∃ m, W 0 m (upd H1 D (.dK []))) ∧ ∀ i m H, W i m H →
      (J.stop i H ∧ Qd H) ∨ (J.go i H ∧ ∃ Nx : Hp → Prop, (∀ H', Nx H' → ∃ m', m' < m ∧ W (i + 1) m' H') ∧ ∀ x H', J.yld i H x H' → g x (wipe σ vs) H' fun σ2 H2 => wipe σ2 vs = wipe σ vs ∧ tt σ2 H2 fun b H3 =>
        if b = true then tk σ2 H3 fun y H4 => tv σ2 H4 fun z H5 => ∃ kvs k, y = kV k ∧ H5 D = some (.dK kvs) ∧ kvs.length < sizeLine ∧ Nx (upd H5 D (.dK (putK kvs k z))) else Nx H3) := by
  refine ⟨fun i m H => m = n - i ∧ i ≤ n ∧ Pv i H, ⟨n, by simp, Nat.zero_le _, h0⟩, ?_⟩
  rintro i m H ⟨rfl, hi, p⟩
  have q := hG i H hi p
  by_cases hlt : i < n
  · exact .inr ⟨w.goes i H hlt q, Pv (i + 1), fun H' p' => ⟨n - (i + 1), by omega, rfl, hlt, p'⟩, fun x H' y => hs i x H H' hlt p (w.yields i H x H' hlt q y)⟩
  · have e : i = n := by omega
    subst e
    exact .inl ⟨w.stops H q, hd H p⟩
section
variable {X : Cx}
theorem ps_setDc {i : Nat} {y : Str} {py : Pos} {kx vx tg iter : Expr} {ifs : List Expr} {scope : Scope} {own : List (Str × Nat)} {pos spos : Pos} {wi : TI} {g : TG} {tt : TT} {tk tv : TE} (hc : X.calm = true) (hN : X.N.Nodup) (hy : X.N[i]? = some y) (hyl : X.env.scope.names.lookup y = some .local)
    (hsw : swapsWith (.DictComp kx vx [⟨tg, iter, ifs, 0⟩] scope pos) (some (.Name y py)) spos.line X.env = pure true) (hi : PI X tg iter wi) (ok : BlkOk X.N X.env.scope scope own)
    (hg : ∀ (s : Shared) (H : Hp) (C : Addr) (cl : List (Str × Addr)) (fp : List Addr), PG (X.blk s H scope (compEnvC scope cl C X.env) fp) tg g) (ht : ∀ (s : Shared) (H : Hp) (C : Addr) (cl : List (Str × Addr)) (fp : List Addr), PTs (X.blk s H scope (compEnvC scope cl C X.env) fp) ifs tt)
    (hk : ∀ (s : Shared) (H : Hp) (C : Addr) (cl : List (Str × Addr)) (fp : List Addr), PE (X.blk s H scope (compEnvC scope cl C X.env) fp) kx tk)
    (he : ∀ (s : Shared) (H : Hp) (C : Addr) (cl : List (Str × Addr)) (fp : List Addr), PE (X.blk s H scope (compEnvC scope cl C X.env) fp) vx tv) (hs : ∀ x, foldedSetIterable iter X.env x = pure x := by intro _; rfl) :
    PS X (.Assign [.Name y py] (.DictComp kx vx [⟨tg, iter, ifs, 0⟩] scope pos) spos) (tAsg (tDc wi g tt tk tv (own.map (·.2))) (gName i)) := by
  refine ⟨fun pins s σ H D I h => ?_⟩
  rw [exec_Assign_Name_used _ _ _ _ hsw]
  refine wpAny_bind (wpAny_standAt (wpAny_bind ?_))
  show wpAny _ X.A (do let _ ← comprehension (.DictComp kx vx [⟨tg, iter, ifs, 0⟩] scope pos) scope X.env (firstIterPos [⟨tg, iter, ifs, 0⟩] pos) newDict false (eval iter X.env) (some (assign (.Name y py) X.env))) _ _ s
  have h : tDc wi g tt tk tv (own.map (·.2)) σ H (fun x H1 => gName i x σ H1 D.nx) := h
  refine wpAny_bind (thn (dc_core (Qf := fun _ s' => SP X pins D .next s') hc hN I hi ok hg ht hk he hs h fun L C s' m H' I' q hn f => ?_) fun _ s' hq => wpAny_pure (wpAny_pure hq))
  show wpAny _ _ (assign (.Name y py) X.env (.ref L)) _ _ _
  refine wpAny_assign_Name (store_ok2 (v := V.ref L) I' hN hy (.inl hyl) rfl (fun s2 I2 ⟨a, sb, ha⟩ => ?_) (.inr hyl))
  obtain ⟨f0, f1, f2, f3, f4, f5⟩ := f
  have haC : C ≠ a := by
    rcases ha with z | z
    · rw [z]; exact f1
    · exact fun e => f4 y a z e.symm
  refine ⟨m, hn.sameBut sb haC, fun h3 sb3 => ?_⟩
  exact ⟨_, H', I2.turned (t' := s2.toks) (fun b o hb e => (sb3.2 b hb).trans e) f0 f1 f3 f4 f5, q⟩
theorem sw_trueD {kx vx : Expr} {gs : List Comprehension} {scope : Scope} {pos py : Pos} {y : Str} {l : Nat} {env : Env} (hk : env.scope.kind = .function) (hy : env.scope.names.lookup y = some .local) (hl : (py.line == pos.line) = true)
    (ha : (scope.names.any fun (n, k) => n == y && (k == .local || k == .cell)) = false) : swapsWith (.DictComp kx vx gs scope pos) (some (.Name y py)) l env = pure true := by
  have ky : env.kindOf y = some .local := hy
  have hb : env.blockKind = .function := by unfold Env.blockKind; rw [hk]; rfl
  unfold swapsWith
  simp only [hb, ky, ha, Expr.pos, hl]
  rfl
/-! ### sorted(a tuple of texts) -/
def rSortedST (K : PySem.W.Frag) : List V → Hp → VK → Prop := fun vs H Q => ∃ (a : Addr) (xs : List Str), vs = [V.ref a] ∧ SqT K H a (xs.map V.str) ∧ xs.length < 64 ∧
  ∀ (ys : List Str) (p : Addr), ys.Perm xs → sortedS ys = true → H p = none → Q (.ref p) (upd H p (.lst (ys.map V.str)))
theorem cr_sortedST : CallR X (.builtin "sorted") (rSortedST X.K) := by
  intro pins s σ H vs us Q I r h
  obtain ⟨a, xs, rfl, hs, h64, q⟩ := h
  obtain ⟨its, rv, ⟨o, ho, hc, n, hd⟩, hz⟩ := I.tuple hs
  rw [Vals.ref1 r]
  have hlen0 := rv.length
  rw [List.length_map] at hlen0
  have hS := rv.strs
  refine Calls.call_function_entry PyProof.Rows.kind_sorted PyProof.Rows.plain_sorted PyProof.Rows.entry_sorted (PyProof.Rows.args_sorted1 _) ?_
  unfold Builtin.«sorted»
  refine wpAny_bind (m := checkCount "sorted" 1 1 _) (wpAny_pure ?_)
  refine wpAny_bind (wpAny_collect_seq a (.inr rfl) ho hc hd (fun h' hk => ?_) (by rw [List.size_toArray, ← hlen0, sizeLine_eq]; omega))
  have hS : StrsAre its xs := hS
  have I1 : Inv X pins σ H { s with heap := h' } := I.kept (t' := s.toks) hk
  refine wpAny_bind (wpAny_newList ?_ (by rw [← hlen0, sizeLine_eq]; omega))
  have hoL : (h'.push (seqObj "list" its.toArray 0)).get? h'.objs.size = some (seqObj "list" its.toArray 0) := Heap.get?_push_size _ rfl
  show wpAny _ _ _ _ _ { s with heap := h'.push (seqObj "list" its.toArray 0) }
  refine wpAny_bind (wpAny_holding (wpAny_call_entry PyProof.Rows.slot_list_sort ⟨_, hoL, rfl⟩ PyProof.Rows.entry_list_sort
    (list_sort_treeK strKind_oneLt (s := { s with heap := h'.push (seqObj "list" its.toArray 0) }) hoL hS.keysOf (fun v₁ v₂ rest e => keyKind_strs (by rw [← e]; exact hS)) (by rw [← hlen0]; exact h64) fun st' hp hs => ⟨_, rfl, ?_⟩)
    (PyProof.Rows.args_list_sort _)))
  obtain ⟨ys, g1, g2, g3⟩ := sorted_out_str hS hp hs
  obtain ⟨e', he'⟩ := PyProof.Rows.sortedHeap_at (vs := its) (out := (arrOf st').map (·.2)) hoL
  have hlen : (ys.map V.str).length ≤ sizeLine := by
    rw [List.length_map, g2.length_eq]
    exact Nat.le_trans (Nat.le_of_lt h64) (by decide)
  refine wpAny_pure ⟨_, rfl, .ref h'.objs.size, upd H h'.objs.size (.lst (ys.map V.str)), I1.laid (t' := s.toks) (fun b u e => ?_) (Nat.le_refl _)
    (show ObjOk X.prog X.w _ _ _ (.lst (ys.map V.str)) from ⟨hlen, ((arrOf st').map (·.2)).toList, e', vals_of_strs g1, by rw [Array.toArray_toList]; exact he'⟩), rfl, q ys _ g2 g3 (I1.hok.fresh (Nat.le_refl _))⟩
  have hb : b < h'.objs.size := Heap.lt_size e
  rw [PyProof.Rows.sortedHeap_old (Nat.ne_of_lt hb) (by rw [size_push']; exact Nat.lt_succ_of_lt hb)]
  exact Heap.get?_push_of_some _ e
end
end HW

set_option Elab.async false
set_option linter.all false
set_option maxRecDepth 100000
set_option maxHeartbeats 2000000
namespace HW
open PySem PySem.Spec PyProof.Rows L2
/-! ### {**a, **b} -/
section
variable {prog : Program} {w : World} {A : Around} {E : Value → Shared → Prop} {s : Shared} {K : Type} [DecidableEq K] {knd : KeyKind prog w K}
theorem wpAny_dictPut_pairs {d : Addr} {kvs : List (K × Value)} {k : K} {key v : Value} {Q : Unit → Shared → Prop} (hkey : knd.is k key = true) (hm : s.heap.DictOf knd d kvs)
    (hQ : ∀ h', h'.DictOf knd d (stored kvs k v) → Heap.SameBut d s.heap h' → Q () { s with heap := h' })
    (hsz : kvs.length ≤ sizeLine := by size_fits) :
    wpAny (model prog w) A (dictPut d (knd.hash k) key v) Q E s := by
  obtain ⟨o, es, ep, ho, hc, hd, hk, hp, hn⟩ := hm
  have hes : es.size ≤ sizeLine := by have e1 := hp.length; have e2 : es.toList.length = es.size := by simp
                                      omega
  unfold dictPut
  refine wpAny_bind (wpAny_dictFind_of hkey ho hd hk ?_)
  have hidx : (es.findIdx? fun e => knd.is k e.key) = kvs.findIdx? fun kv => decide (kv.1 = k) := by
    rw [← hp.findIdx k]; obtain ⟨l⟩ := es; simp
  cases hi : es.findIdx? fun e => knd.is k e.key with
  | some i =>
    refine wpAny_updateDict ho hd (hQ _ ⟨_, _, ep, Heap.get?_update_self _ ho (Obj.isFreed_of_dict (Obj.data_mapDict hd _)),
      hc.mapDict _, Obj.data_mapDict hd _, hk.modify _ _, ?_, ?_⟩ (Heap.SameBut.update ..))
    · rw [stored, if_pos (any_of_findIdx_some (hidx ▸ hi))]
      have hl : (es.toList.findIdx? fun e => knd.is k e.key) = some i := by rw [← hi]; obtain ⟨l⟩ := es; simp
      have := hp.modify hn hl v
      obtain ⟨l⟩ := es
      simpa using this
    · rw [stored, if_pos (any_of_findIdx_some (hidx ▸ hi)), keys_map_store]; exact hn
  | none =>
    have hnot : k ∉ kvs.map (·.1) := not_mem_of_findIdx_none (hidx ▸ hi)
    have hany : ¬ (kvs.any fun kv => decide (kv.1 = k)) = true := by
      rw [List.any_eq_true]; rintro ⟨kv, hkv, he⟩
      exact hnot (List.mem_map.mpr ⟨kv, hkv, of_decide_eq_true he⟩)
    refine wpAny_updateDictKeys (hz := hes) ho hd (hQ _ ⟨_, _, ep + 1, Heap.get?_update_self _ ho (Obj.isFreed_of_dict (Obj.data_mapDictKeys hd _)),
      hc.mapDictKeys _, Obj.data_mapDictKeys hd _, hk.push hkey _, ?_, ?_⟩ (Heap.SameBut.update ..))
    · rw [stored, if_neg hany]
      have := hp.append hkey (knd.hash k) v
      obtain ⟨l⟩ := es
      simpa using this
    · rw [stored, if_neg hany, List.map_append, List.nodup_append]
      refine ⟨hn, by simp, ?_⟩
      intro a ha b hb
      rw [List.map_cons, List.map_nil, List.mem_singleton] at hb
      subst hb
      rintro rfl
      exact hnot ha

/-- keys that are no objects -/
def NoRef (knd : KeyKind prog w K) : Prop := ∀ (k : K) (v : Value), knd.is k v = true → ∀ a, v ≠ .ref a
theorem wpAny_mergeMapping_dict {d o : Addr} {kvs more : List (K × Value)} {Q : Unit → Shared → Prop} (nr : NoRef knd) (hdo : d ≠ o) (hoS : (o == sysModules) = false) (hd : s.heap.DictOf knd d kvs) (ho : s.heap.DictOf knd o more)
    (hQ : ∀ h', h'.DictOf knd d (merged kvs more) → h'.DictOf knd o more → Heap.SameBut d s.heap h' → Q () { s with heap := h' })
    (hsz : kvs.length + more.length ≤ sizeLine) :
    wpAny (model prog w) A (mergeMapping d (.ref o) false) Q E s := by
  have hT := ho.typeIs
  obtain ⟨od, esd, epd, hod, hcd, hdd, hkd, hpd, hnd⟩ := id hd
  obtain ⟨oo, eso, epo, hoo, hco, hdo', hko, hpo, hno⟩ := id ho
  have hlen : more.length = eso.size := by have := hpo.length; simp at this; omega
  have loop : wpAny (model prog w) A (do
      let size := (← dictEntries o).size
      let epoch ← dictEpoch o
      for i in List.range size do
        let some e := (← dictEntries o)[i]? | unsupported "dict.changed-during-merge"
        holding [e.key, e.val] do
          if false = true then
            if (← dictFind d e.key e.hash).isSome then rule "dict.merge.duplicate-key"; raiseNew (← newExc (.type "KeyError") [e.key])
          dictPut d e.hash e.key e.val
        if (← dictEpoch o) != epoch then unsupported "dict.changed-during-merge") Q E s := by
    refine wpAny_bind (wpAny_dictEntries hoo hdo' ?_)
    refine wpAny_bind (wpAny_dictEpoch hoo hdo' ?_)
    have key := wpAny_forIn_list (M := model prog w) (A := A) (E := E) (s := s) (α := Nat) (β := PUnit) (l := List.range eso.size) (b := PUnit.unit) (Q := fun _ s' => wpAny (model prog w) A (pure () : Sem Unit) Q E s')
      (fun i r => (do
        let some e := (← dictEntries o)[i]? | do { (unsupported "dict.changed-during-merge" : Sem PUnit); pure (ForInStep.yield PUnit.unit) }
        holding [e.key, e.val] (do
          if false = true then
            if (← dictFind d e.key e.hash).isSome then rule "dict.merge.duplicate-key"; raiseNew (← newExc (.type "KeyError") [e.key])
          dictPut d e.hash e.key e.val)
        if (← dictEpoch o) != epo then do { (unsupported "dict.changed-during-merge" : Sem PUnit); pure (ForInStep.yield PUnit.unit) } else pure (ForInStep.yield PUnit.unit) : Sem (ForInStep PUnit)))
      (fun rest _ s' => ∃ h' i, s' = { s with heap := h' } ∧ rest = List.range' i (eso.size - i) ∧ i ≤ eso.size ∧ h'.DictOf knd d (merged kvs (more.take i)) ∧ h'.get? o = some oo ∧ Heap.SameBut d s.heap h')
      ?turn ?fin ⟨s.heap, 0, rfl, by simp [List.range_eq_range'], Nat.zero_le _, by simpa [merged] using hd, hoo, Heap.SameBut.refl _ _⟩
    · exact wpAny_bind key
    case turn =>
      rintro x rest b s' ⟨h', i, rfl, hr, hi, hd', hoo', hs'⟩
      have hlt : i < eso.size := by
        rcases Nat.lt_or_ge i eso.size with h | h
        · exact h
        · rw [Nat.sub_eq_zero_of_le h] at hr; simp at hr
      obtain ⟨rfl, hrest⟩ : x = i ∧ rest = List.range' (i + 1) (eso.size - (i + 1)) := by
        have e : eso.size - i = (eso.size - (i + 1)) + 1 := by omega
        rw [e, List.range'_succ] at hr
        injection hr with h1 h2
        exact ⟨h1, h2⟩
      refine wpAny_bind (wpAny_dictEntries hoo' hdo' ?_)
      rw [Array.getElem?_eq_getElem hlt]
      obtain ⟨kv, hkv⟩ : ∃ kv, more[x]? = some kv := ⟨more[x]'(by rw [hlen]; exact hlt), List.getElem?_eq_getElem _⟩
      obtain ⟨k, v⟩ := kv
      obtain ⟨hkey, hval⟩ := hpo.get? (e := eso[x]) (by simp [hlt]) hkv
      obtain ⟨k', hkey', hhash⟩ := hko eso[x] (Array.getElem_mem hlt)
      obtain rfl : k' = k := knd.inj _ _ _ hkey' hkey
      have hmx : (merged kvs (more.take x)).length ≤ sizeLine := by
        have e1 := merged_length_le kvs (more.take x)
        have e2 : (more.take x).length ≤ more.length := by rw [List.length_take]; omega
        omega
      dsimp only
      simp only [Bool.false_eq_true, if_false]
      rw [hhash, hval]
      refine wpAny_bind (wpAny_holding (wpAny_dictPut_pairs (hsz := hmx) hkey hd' fun h'' hd'' hs'' => ?_))
      have hoo'' : h''.get? o = some oo := (hs''.2 o (Ne.symm hdo)).trans hoo'
      refine wpAny_bind (wpAny_dictEpoch hoo'' hdo' ?_)
      rw [if_neg (by simp)]
      exact wpAny_pure ⟨h'', x + 1, rfl, hrest, hlt, by rw [merged_take_succ kvs more x (k', v) hkv]; exact hd'', hoo'', hs'.trans hs''⟩
    case fin =>
      rintro b s' ⟨h', i, rfl, hr, hi, hd', hoo', hs'⟩
      have hin : i = eso.size := by
        rcases Nat.lt_or_ge i eso.size with h | h
        · have e : eso.size - i = (eso.size - (i + 1)) + 1 := by omega
          rw [e, List.range'_succ] at hr; exact nomatch hr
        · exact Nat.le_antisymm hi h
      refine wpAny_pure (hQ h' ?_ ⟨oo, eso, epo, hoo', hco, hdo', hko, hpo, hno⟩ hs')
      rw [hin, ← hlen, List.take_length] at hd'; exact hd'
  unfold mergeMapping
  refine wpAny_bind (wpAny_isInstance hT isSubtype_dict_dict ?_)
  simp only [if_true]
  refine wpAny_bind (wpAny_specialOf hT F.slot_dict_iter.lookup ?_)
  simp only [beq_self_eq_true]
  refine wpAny_bind (wpAny_pure ?_)
  dsimp only
  rw [if_neg (by rw [hoS]; exact Bool.false_ne_true)]
  refine wpAny_bind (wpAny_dictEntries hod hdd ?_)
  split
  · refine wpAny_bind (wpAny_dictEntries hoo hdo' ?_)
    refine wpAny_bind (MeetsSeq2.wpAny_forIn_array _ (fun rest _ s' => s' = s ∧ ∀ e ∈ rest, e ∈ eso.toList) _ ?_ ?_ _ _ ⟨rfl, fun e he => he⟩)
    · rintro x rest b s' ⟨rfl, hm⟩
      obtain ⟨k, hk, _⟩ := hko x (by simpa using hm x (List.mem_cons_self ..))
      have hne := nr _ _ hk
      cases hx : x.key with
      | ref a => exact absurd hx (hne a)
      | _ => exact wpAny_pure ⟨rfl, fun e he => hm e (List.mem_cons_of_mem _ he)⟩
    · rintro b s' ⟨rfl, _⟩
      exact loop
  · exact loop
end
end HW

set_option Elab.async false
set_option linter.all false
set_option maxRecDepth 100000
set_option maxHeartbeats 2000000
namespace HW
open PySem PySem.Spec PyProof.Rows L2
theorem noRef_mix (prog : Program) (w : World) : NoRef (mixKind prog w) := fun k v h a e => by
  rcases keyIs_shape (k := k) (v := v) h with ⟨i, t, _, e'⟩ | ⟨x, t, _, e'⟩ <;> · rw [e'] at e; cases e
section
variable {X : Cx}
def tDm (ta tb : TE) : TE := fun σ H Q => ∀ p, H p = none → ta σ (upd H p (.dK [])) fun x H1 => ∃ a ks, x = .ref a ∧ a ≠ p ∧ H1 a = some (.dK ks) ∧ H1 p = some (.dK []) ∧
  tb σ (upd H1 p (.dK (mergeK [] ks))) fun y H2 => ∃ b ls, y = .ref b ∧ b ≠ p ∧ H2 b = some (.dK ls) ∧ H2 p = some (.dK (mergeK [] ks)) ∧ (mergeK [] ks).length + ls.length ≤ sizeLine ∧
  Q (.ref p) (upd H2 p (.dK (mergeK (mergeK [] ks) ls)))
theorem merge_ok {pins : List (Addr × Obj)} {σ : L2.St} {H : Hp} {s : Shared} {d a : Addr} {kvs ks : List (Key × V)} {Q : Unit → Shared → Prop} {A : Around} {E : Value → Shared → Prop} (I : Inv X pins σ H s) (hd : H d = some (.dK kvs)) (ha : H a = some (.dK ks)) (hne : a ≠ d) (hsz : kvs.length + ks.length ≤ sizeLine)
    (h : ∀ s', Inv X pins σ (upd H d (.dK (mergeK kvs ks))) s' → Q () s') : wpAny (model X.prog X.w) A (mergeMapping d (.ref a) false) Q E s := by
  obtain ⟨z, hS, vs, rel, dd⟩ := dk_of I.hok hd
  obtain ⟨z2, hS2, vs2, rel2, dd2⟩ := dk_of I.hok ha
  refine wpAny_mergeMapping_dict (noRef_mix X.prog X.w) (Ne.symm hne) hS2 dd dd2 (fun h' dd' _ sb => h _ ?_) (by rw [← rel.length, ← rel2.length]; exact hsz)
  have he : ∃ q, h'.get? d = some q := let ⟨q, _, _, hq, _⟩ := dd'; ⟨q, hq⟩
  have hr : KV (mergeK kvs ks) (merged vs vs2) := KV.merge rel2 rel
  have hl : (mergeK kvs ks).length ≤ sizeLine := by
    rw [hr.length]
    refine Nat.le_trans (merged_length_le vs vs2) ?_
    rw [← rel.length, ← rel2.length]; exact hsz
  exact d_write I (by rw [hd]; exact True.intro) sb he (dk_new hl hS hr dd')
theorem pe_dmerge {ea eb : Expr} {ta tb : TE} {pos : Pos} (ha : PE X ea ta) (hb : PE X eb tb) : PE X (.Dict [none, none] [ea, eb] pos) (tDm ta tb) := by
  refine ⟨fun pins s σ H Q I h => ?_⟩
  rw [arm_eval_Dict]
  have e0 : (evalEachOpt [none, none] X.env).zip ((evalEach [ea, eb] X.env).map fun v => do let x ← v; standAt pos; pure x) =
      [(none, do let x ← eval ea X.env; standAt pos; pure x), (none, do let x ← eval eb X.env; standAt pos; pure x)] := rfl
  rw [e0]
  unfold dictDisplay
  simp only [List.forIn_cons, List.forIn_nil]
  refine wpAny_bind (wpAny_standAt ?_)
  refine wpAny_bind (wpAny_bind (wpAny_bind ?_))
  rw [if_pos (by rfl)]
  refine wpAny_pure ?_
  dsimp only
  refine wpAny_bind (wpAny_alloc ?_)
  generalize hD : s.heap.objs.size = D
  have hDn : H D = none := I.hok.fresh (Nat.le_of_eq hD)
  have I1 : Inv X pins σ (upd H D (.dK [])) { s with heap := s.heap.push { cls := .type "dict", data := .dict #[] } } := by
    refine I.laid (t' := s.toks) (fun b o e => Heap.get?_push_of_some _ e) (Nat.le_of_eq hD) ?_
    rw [← hD]
    exact dk_empty s.heap I.big
  refine wpAny_bind (wpAny_holding (wpAny_bind (thn (ha.run pins _ σ _ _ I1 (h D hDn)) fun u s1 ⟨x, H1, I2, rx, a, ks, ex, hne, e1, e2, q⟩ => wpAny_bind (wpAny_standAt (wpAny_pure ?_)))))
  subst ex
  obtain rfl : u = Value.ref a := rx
  have hks := (dk_of I2.hok e1).1
  refine wpAny_bind (wpAny_onRaise (wpAny_tryCatch (wpAny_onRaise (wpAny_holding (merge_ok I2 e2 e1 hne (by rw [List.length_nil, Nat.zero_add]; exact hks) fun s2 I3 => wpAny_pure ?_)))))
  dsimp only
  refine wpAny_bind (wpAny_bind ?_)
  rw [if_pos (by rfl)]
  refine wpAny_pure ?_
  dsimp only
  refine wpAny_bind (wpAny_pure ?_)
  refine wpAny_bind (wpAny_holding (wpAny_bind (thn (hb.run pins _ σ _ _ I3 q) fun u s3 ⟨y, H2, I4, ry, b, ls, ey, hne2, f1, f2, hl, q2⟩ => wpAny_bind (wpAny_standAt (wpAny_pure ?_)))))
  subst ey
  obtain rfl : u = Value.ref b := ry
  refine wpAny_bind (wpAny_onRaise (wpAny_tryCatch (wpAny_onRaise (wpAny_holding (merge_ok I4 f2 f1 hne2 hl fun s4 I5 => wpAny_pure ?_)))))
  dsimp only
  refine wpAny_pure ?_
  dsimp only
  refine wpAny_bind ?_
  rw [if_pos (by rfl)]
  refine wpAny_pure ?_
  dsimp only
  exact wpAny_pure ⟨.ref D, _, I5, rfl, q2⟩
end
end HW

set_option Elab.async false
set_option linter.all false
set_option maxRecDepth 100000
set_option maxHeartbeats 2000000
namespace HW
open PySem PySem.Spec PyProof.Rows L2
open AutoSeq1 (wpAny_loadPart')
/-! ### tuple(a dict): its keys -/
section
variable {prog : Program} {w : World} {A : Around} {E : Value → Shared → Prop} {s : Shared} {K : Type} [DecidableEq K] {knd : KeyKind prog w K}
theorem code_tuple_new_dict {d : Addr} {kvs : List (K × Value)} {ep : Nat} {Q₁ : Value → Shared → Prop} (hh : A.handled = none) (hS : (d == sysModules) = false) (hd : s.heap.DictOf knd d kvs) (hat : s.heap.DictAt knd d kvs ep) (hn : kvs.length ≤ sizeLine)
    (h : ∀ (h' : Heap) (tk : Nat) (acc : Array Value), (∀ b o, s.heap.get? b = some o → h'.get? b = some o) → ItemsOf (fun i v => ∃ k x, kvs[i]? = some (k, x) ∧ knd.is k v = true) acc kvs.length →
      Q₁ (.ref h'.objs.size) { s with heap := h'.push { cls := .type "tuple", data := .seq acc }, toks := tk }) :
    codeAny (model prog w) A (.call (.builtin "tuple.__new__") ⟨[.type "tuple", .ref d], []⟩) (wants Q₁ E) s := by
  refine codeAny_of_tree ?_
  show wpAny _ A.in1 (do checkBuiltinCall "tuple.__new__" ⟨[.type "tuple", .ref d], []⟩; again (.builtin "tuple.__new__" ⟨[.type "tuple", .ref d], []⟩)) _ _ s
  refine wpAny_bind (wpAny_of_eq (F.newCall_tuple_1 _) (wpAny_pure ⟨plainId_quiet F.plain_tuple_new _, codeAny_builtin F.entry_tuple_new ?_⟩))
  rw [Around.under_plainId F.plain_tuple_new _]
  have hsub := sub_tuple_self
  have hinit := init_tuple_lookup
  have hmh := madeHere_tuple
  have hTI : s.TypeIs (.ref d) "dict" := hd.typeIs
  have hh1 : A.in1.handled = none := hh
  wp_walk using wpAny_typeOf hTI, PySem.W.kdu_collect (A := A.in1) (PySem.W.kdl_dict (knd := knd) (kvs := kvs) (ep := ep) hS) hh1 hat hn
  intro h' tk acc hk hacc
  show wpAny _ _ (Builtin.Tuple.tupleExact acc.toList.toArray >>= fun v => ret v) _ _ _
  unfold Builtin.Tuple.tupleExact
  refine wpAny_bind (wpAny_newObj_type ?_ (by show acc.toList.toArray.size ≤ sizeLine; simp only [Array.toArray_toList]; rw [hacc.1]; exact hn))
  refine wpAny_pure ?_
  have e : acc.toList.toArray = acc := by simp
  rw [e]
  exact h h' tk acc hk hacc
theorem call_tuple_dict {d : Addr} {kvs : List (K × Value)} {ep : Nat} {Q : Value → Shared → Prop} (hh : A.handled = none) (hS : (d == sysModules) = false) (hd : s.heap.DictOf knd d kvs) (hat : s.heap.DictAt knd d kvs ep) (hn : kvs.length ≤ sizeLine)
    (hQ : ∀ (h' : Heap) (tk : Nat) (acc : Array Value), (∀ b o, s.heap.get? b = some o → h'.get? b = some o) → ItemsOf (fun i v => ∃ k x, kvs[i]? = some (k, x) ∧ knd.is k v = true) acc kvs.length →
      Q (.ref h'.objs.size) { s with heap := h'.push { cls := .type "tuple", data := .seq acc }, toks := tk }) :
    wpAny (model prog w) A (call (.type "tuple") [.ref d]) Q E s := by
  refine callType_codes (Q₁ := fun obj s₁ => s₁.TypeIs obj "tuple" ∧ Q obj s₁) F.called_tuple (F.typeCall_tuple_1 _) F.entry_object_init
    (code_tuple_new_dict (A := A.in1) hh hS hd hat hn fun h' tk acc hk hacc => ⟨⟨_, Heap.get?_push_size _ rfl, rfl⟩, hQ h' tk acc hk hacc⟩) fun obj s₁ h₁ => ?_
  exact ⟨h₁.1, F.args_object_init_2 obj _, object_init_meets F.called_tuple.init.lookup F.called_tuple.made (by decide) prog w A.in1 _ s₁ ⟨h₁.1, rfl, h₁.2⟩⟩
end
section
variable {X : Cx}
def rTupD : List V → Hp → VK → Prop := fun xs H Q => ∃ p kvs, xs = [.ref p] ∧ H p = some (.dK kvs) ∧ ∀ q, H q = none → Q (.ref q) (upd H q (.tup (kvs.map fun kv => kV kv.1)))
theorem cr_tupleD (hc : X.calm = true) : CallR X (.type "tuple") rTupD := by
  intro pins s σ H xs us Q I r h
  obtain ⟨p, kvs, e, hk, q⟩ := h
  subst e
  obtain ⟨u, eu, rx⟩ := vals1 r
  subst eu
  obtain rfl : u = Value.ref p := rx
  obtain ⟨z, lo, vs, rk, hd⟩ := (show ObjOk X.prog X.w H s.heap p (.dK kvs) from I.hok p _ hk)
  obtain ⟨ep, hat⟩ := hd.dictAt
  have hl : kvs.length = vs.length := Paired.length rk
  refine call_tuple_dict (I.ok.hd hc) lo hd hat (by rw [← hl]; exact z) fun h' tk acc' hkeep hacc => ?_
  have I1 : Inv X pins σ H { s with heap := h', toks := tk } := I.kept (t' := tk) hkeep
  have rv : Vals (kvs.map fun kv => kV kv.1) acc'.toList := by
    have el : acc'.toList.length = acc'.size := by simp
    refine vals_of_at (by rw [List.length_map, el, hacc.1, hl]) fun j x w h1 h2 => ?_
    obtain ⟨k, y, hky, hi⟩ := hacc.2 j w (by rw [← Array.getElem?_toList]; exact h2)
    have e1 : (kvs.map (·.1))[j]? = some k := by
      rw [KV.keys rk, List.getElem?_map, hky] <;> rfl
    have e2 : (kvs.map fun kv => kV kv.1)[j]? = some (kV k) := by
      have e3 : (kvs.map fun kv => kV kv.1) = (kvs.map (·.1)).map kV := by rw [List.map_map] <;> rfl
      rw [e3, List.getElem?_map, e1] <;> rfl
    rw [e2] at h1
    cases h1
    rcases keyIs_shape (k := k) (v := w) hi with ⟨i, t, ek, ev⟩ | ⟨x, t, ek, ev⟩
    · rw [ek, ev]; exact ⟨t, rfl⟩
    · rw [ek, ev]; exact ⟨t, rfl⟩
  have I2 : Inv X pins σ (upd H h'.objs.size (.tup (kvs.map fun kv => kV kv.1))) { s with heap := h'.push { cls := .type "tuple", data := .seq acc' }, toks := tk } :=
    I1.laid (t' := tk) (fun b o e => Heap.get?_push_of_some _ e) (Nat.le_refl _) (show ObjOk X.prog X.w _ _ _ (.tup (kvs.map fun kv => kV kv.1)) from ⟨by rw [List.length_map]; exact z, acc'.toList, rv, by
      rw [Array.toArray_toList]; exact IsTup.new _ _⟩)
  exact ⟨.ref h'.objs.size, _, I2, rfl, q _ (I1.hok.fresh (Nat.le_refl _))⟩
end
/-! ### enumerate(a tuple) -/
theorem meets_enumerate_newT (t : Addr) (items : Array Value) :
    Meets (Builtin.«enumerate.__new__» ⟨[.type "enumerate", .ref t], []⟩) (fun _ R s => s.heap.IsTuple t items ∧
      R (.ok (.ret (.ref (s.heap.push { cls := .type "tuple_iterator", data := .fields #[.ref t, .int 0 0] }).objs.size)))
        { s with heap := (s.heap.push { cls := .type "tuple_iterator", data := .fields #[.ref t, .int 0 0] }).push { cls := .type "enumerate", data := .fields #[.none, .bool false, .ref s.heap.objs.size, rawInt 0, .none, .none] } }) :=
  .of_wp fun prog w A R s h => by
    obtain ⟨hp, g, d, tk, os⟩ := s; obtain ⟨h1, h⟩ := h
    have hsub := sub_enumerate
    have B := begins_tuple t items
    have q1 : ∀ {A' : Around} {E : Value → Shared → Prop} {Q : Value → Shared → Prop}, Q (.ref hp.objs.size) ⟨hp.push { cls := .type "tuple_iterator", data := .fields #[.ref t, .int 0 0] }, g, d, tk, os⟩ → wpAny (model prog w) A' (pyIter (.ref t)) Q E ⟨hp, g, d, tk, os⟩ :=
      fun q => B.iter prog w _ _ ⟨hp, g, d, tk, os⟩ _ h1 q
    wp_walk using q1
    refine wpAny_stack_any fun st => wpAny_pure ?_
    split
    · rename_i c _ _ _ _ _
      cases (c == Value.type "enumerate")
      · wp_walk using q1
        exact ⟨_, rfl, h⟩
      · wp_walk using q1
        exact ⟨_, rfl, h⟩
    · wp_walk using q1
      exact ⟨_, rfl, h⟩
section
variable {prog : Program} {w : World} {A : Around} {E : Value → Shared → Prop} {s : Shared}
theorem call_enumerate_tuple {l : Addr} {items : Array Value} {Q : Value → Shared → Prop} (hL : s.heap.IsTuple l items)
    (h : ∀ h', IsEnum h' (s.heap.objs.size + 1) s.heap.objs.size 0 .none → h'.IsTupleIter s.heap.objs.size l 0 → h'.objs.size = s.heap.objs.size + 2 →
      (∀ b o, s.heap.get? b = some o → h'.get? b = some o) → Q (.ref (s.heap.objs.size + 1)) { s with heap := h' }) :
    wpAny (model prog w) A (call (.type "enumerate") [.ref l]) Q E s := by
  refine callType_new F.called_enumerate (by decide) (F.typeCall_enumerate_1 _) (F.newCall_enumerate_1 _) (fun obj => F.args_object_init_2 obj _) F.entry_enumerate_new
    (meets_enumerate_newT l items) ⟨hL, ?_⟩
  have hz : (s.heap.push { cls := .type "tuple_iterator", data := .fields #[.ref l, .int 0 0] }).objs.size = s.heap.objs.size + 1 := Heap.size_push ..
  show _ ∧ _
  rw [hz]
  have he : IsEnum ((s.heap.push { cls := .type "tuple_iterator", data := .fields #[.ref l, .int 0 0] }).push
      { cls := .type "enumerate", data := .fields #[.none, .bool false, .ref s.heap.objs.size, rawInt 0, .none, .none] }) (s.heap.objs.size + 1) s.heap.objs.size 0 .none := by
    have := Heap.get?_push_size (s.heap.push { cls := .type "tuple_iterator", data := .fields #[.ref l, .int 0 0] })
      (o := { cls := .type "enumerate", data := .fields #[.none, .bool false, .ref s.heap.objs.size, rawInt 0, .none, .none] }) rfl
    rw [hz] at this; exact this
  refine ⟨⟨_, he, rfl⟩, h _ he ⟨_, Heap.get?_push_of_some _ (Heap.get?_push_size _ rfl), rfl, rfl⟩ (by rw [Heap.size_push, hz]) fun b o x => Heap.get?_push_of_some _ (Heap.get?_push_of_some _ x)⟩
end
def Iet (K : PySem.W.Frag) (a : Addr) : It :=
  ⟨fun i H => ∃ (xs : List V) (x : V), SqT K H a xs ∧ xs[i]? = some x, fun i H v H' => ∃ T x, v = .ref T ∧ H T = none ∧ H' = upd H T (.tup [.int (i : Nat), x]) ∧ ∀ xs, SqT K H a xs → xs[i]? = some x, fun i H => ∃ xs : List V, SqT K H a xs ∧ xs.length = i⟩
theorem enum_ne {h : Heap} {e t it : Addr} {c : Int} {old : Value} {items : Array Value} (he : IsEnum h e it c old) (ht : h.IsTuple t items) : e ≠ t := by
  obtain ⟨o, ho, hc, _⟩ := ht
  intro q
  subst q
  have he' : h.get? e = some { cls := .type "enumerate", data := .fields #[.none, .bool false, .ref it, rawInt c, .none, old] } := he
  rw [ho] at he'
  have e1 := Option.some.inj he'
  rw [e1] at hc
  have hc' : Value.type "enumerate" = Value.type "tuple" := hc
  exact absurd hc' (by decide)
theorem tit_ne {h : Heap} {t it a : Addr} {i : Nat} {items : Array Value} (hi : h.IsTupleIter it a i) (ht : h.IsTuple t items) : t ≠ it := by
  obtain ⟨o, ho, hc, _⟩ := ht
  obtain ⟨o2, ho2, hc2, _⟩ := hi
  intro q
  subst q
  rw [ho] at ho2
  have e1 := Option.some.inj ho2
  rw [← e1, hc] at hc2
  exact absurd hc2 (by decide)
theorem turn_enumT {P : Program} {w : World} {K : PySem.W.Frag} {elts : List Expr} {kk : Nat} {tpos : Pos} (a e it : Addr) :
    Turn P w K (.Tuple elts kk tpos) (Iet K a) [e, it] e (fun i h => (∃ old, IsEnum h e it ((i : Nat) : Int) old) ∧ h.IsTupleIter it a i ∧ e ≠ it) where
  mem := by simp
  obj := fun i h st b hb => by
    obtain ⟨⟨old, he⟩, ⟨o, ho, hc, hd⟩, _⟩ := st
    have e' : b = e ∨ b = it := by simpa using hb
    rcases e' with z | z
    · rw [z]; exact ⟨_, he, fun v q => nomatch q⟩
    · rw [z]; exact ⟨o, ho, fun v q => by rw [hd] at q; cases q⟩
  keep := fun i h h' st k => let ⟨⟨old, he⟩, hi, hne⟩ := st; ⟨⟨old, k e (by simp) _ he⟩, hi.at fun o q => k it (by simp) o q, hne⟩
  item := by
    intro X hP hw hK hc i pins s σ H E I hf st hg
    subst hP hw hK
    obtain ⟨⟨old, he⟩, hit, hne⟩ := st
    obtain ⟨xs, x, hq, hx⟩ := hg
    obtain ⟨its, rv, p, hz⟩ := I.tuple hq
    obtain ⟨u, hu, ru⟩ := rv.get hx
    have hel : e < s.heap.objs.size := Heap.lt_size he
    have hil : it < s.heap.objs.size := by obtain ⟨_, q, _⟩ := hit; exact Heap.lt_size q
    have hea : e ≠ a := enum_ne he p
    have hai : a ≠ it := tit_ne hit p
    have hlt : i < its.toArray.size := by
      rw [List.size_toArray]
      exact (List.getElem?_eq_some_iff.mp hu).1
    refine wpAny_pyNext_enum_itemC (D := Draws.tuple (A := X.A.in1) (I.ok.hd hc) it a hai its.toArray) he ⟨hit, p⟩ hlt hne (by simp [hne, hea]) fun y h' tk hy ho hit' hT hsz hk => ?_
    obtain rfl : u = y := by
      have e1 : its[i]? = some y := by simpa using hy
      rw [hu] at e1
      exact Option.some.inj e1
    refine ⟨_, rfl, wpAny_letOwnedTupleGo_enum (s := { s with heap := h', toks := tk + 1 }) ho fun h'' he' sb => ?_⟩
    have hT2 : h''.get? s.heap.objs.size = some { cls := .type "tuple", data := .seq #[.int i tk, u] } := (sb.2 _ (Nat.ne_of_gt hel)).trans hT
    have new : ObjOk X.prog X.w (upd H s.heap.objs.size (.tup [.int (i : Nat), x])) h'' s.heap.objs.size (.tup [.int (i : Nat), x]) :=
      ⟨by show 2 ≤ sizeLine; decide, [.int i tk, u], .cons ⟨_, rfl⟩ (.cons ru .nil), ⟨_, hT2, rfl, _, rfl⟩⟩
    have I1 : Inv X pins σ (upd H s.heap.objs.size (.tup [.int (i : Nat), x])) { s with heap := h'', toks := tk + 1 } :=
      I.turnedNew (ch := [e, it]) (fun b ob hb q => (sb.2 b (fun z => hb (by simp [z]))).trans (hk b ob (fun z => hb (by simp [z])) (fun z => hb (by simp [z])) q)) hf (Nat.le_refl _) new
    refine ⟨.ref s.heap.objs.size, _, I1, rfl, ⟨_, x, rfl, I.hok.fresh (Nat.le_refl _), rfl, fun ys hy => by rw [I.tuple_inj hy hq]; exact hx⟩, ⟨⟨u, ?_⟩, hit'.1.at fun o q => (sb.2 it (Ne.symm hne)).trans q, hne⟩, fun b hb => ?_⟩
    · have e1 : ((i + 1 : Nat) : Int) = (i : Int) + 1 := by omega
      rw [e1]; exact he'
    · have hb' : b < s.heap.objs.size := by
        have e' : b = e ∨ b = it := by simpa using hb
        rcases e' with z | z
        · rw [z]; exact hel
        · rw [z]; exact hil
      rw [upd_ne (Nat.ne_of_lt hb')]
      exact (hf b hb).1
  done := by
    intro X hP hw hK hc i pins s σ H E I hf st hg
    subst hP hw hK
    obtain ⟨⟨old, he⟩, hit, hne⟩ := st
    obtain ⟨xs, hq, hx⟩ := hg
    obtain ⟨its, rv, p, hz⟩ := I.tuple hq
    obtain ⟨f0, f1, f2, f3, f4, f5⟩ := hf it (by simp)
    have hl := rv.length
    have hea : e ≠ a := enum_ne he p
    have hai : a ≠ it := tit_ne hit p
    have hge : its.toArray.size = i := by rw [List.size_toArray, ← hl]; exact hx
    subst hge
    exact wpAny_pyNext_enum_endD (D := Draws.tuple (A := X.A.in1) (I.ok.hd hc) it a hai its.toArray) he ⟨hit, p⟩ fun h' eb => ⟨rfl, I.turned (t' := s.toks) (fun b o hb q => eb b o hb q) f0 f1 f3 f4 f5⟩
  self := fun A i s Q E st h => let ⟨⟨_, he⟩, _⟩ := st; wpAny_pyIter_enum he h
def iEnumT (K : PySem.W.Frag) (ta : TA) : TI := fun σ H R => ta σ H fun vs H1 => ∃ a xs, vs = [.ref a] ∧ SqT K H1 a xs ∧ R (Iet K a) H1
theorem pi_enumT {X : Cx} {e : Expr} {ta : TA} {p pos tpos : Pos} {elts : List Expr} {kk : Nat} (hg : Gl X "enumerate") (hm : X.mg "enumerate" = none) (ha : PA X [e] ta) (hs : starEach [e] X.env = [(false, eval e X.env)] := by rfl) :
    PI X (.Tuple elts kk tpos) (.Call (.Name "enumerate" p) [e] [] pos) (iEnumT X.K ta) := by
  refine ⟨fun pins s σ H R I h => ?_⟩
  refine Call_ (ld_blt I hg hm boot_enumerate (PyProof.Rows.callWith_type1 (thn (ha.run pos pins s σ H _ I h) fun us s1 ⟨vs, H1, I1, r1, q1⟩ => ?_) hs rfl))
  obtain ⟨a, xs, ex, hq, q⟩ := q1
  subst ex
  cases r1 with
  | cons r rr =>
    cases rr
    cases r
    obtain ⟨its, rv, p', hz⟩ := I1.tuple hq
    refine call_enumerate_tuple p' fun h' he hit hsz hk => wpAny_pyIter_enum he ?_
    have I2 : Inv X pins σ H1 { s1 with heap := h' } := I1.kept (t' := s1.toks) hk
    refine ⟨s1.heap.objs.size + 1, [s1.heap.objs.size + 1, s1.heap.objs.size], _, _, H1, rfl, I2, turn_enumT a (s1.heap.objs.size + 1) s1.heap.objs.size, ⟨⟨.none, he⟩, hit, Nat.succ_ne_self _⟩, fun b hb => ?_, q⟩
    have e' : b = s1.heap.objs.size + 1 ∨ b = s1.heap.objs.size := by simpa using hb
    have hle : s1.heap.objs.size ≤ b := by
      rcases e' with z | z
      · rw [z]; exact Nat.le_add_right _ _
      · rw [z]; exact Nat.le_refl _
    exact I1.fpOk hle (I1.hok.fresh hle)
theorem walk_enumT {K : PySem.W.Frag} {a : Addr} {xs : List V} : Walk (Iet K a) xs.length (fun H => SqT K H a xs) (YPair (fun i => some (.int (i : Nat))) (fun i => xs[i]?)) := by
  refine ⟨fun i _ hi q => ⟨xs, xs[i], q, by simp [hi]⟩, fun _ q => ⟨xs, q, rfl⟩, fun i H v H' _ q y => ?_⟩
  obtain ⟨T, x, h1, h2, h3, h4⟩ := y
  exact ⟨T, .int (i : Nat), x, h1, h2, h3, rfl, h4 xs q⟩
end HW

set_option Elab.async false
set_option linter.all false
set_option maxRecDepth 100000
set_option maxHeartbeats 2000000
/-! The text by places. -/
namespace HW
open PySem PySem.Spec PyProof.Rows L2
def top (i : Nat) : Stmt := PySem.Challenge.pw_halfpicked_k82_whole_bridges.main.body.getD i (.Pass ⟨0, 0, 0, 0⟩)
abbrev s_Net_init : Stmt := inClass (top 17) 0
abbrev s_Net_join_nodes : Stmt := inClass (top 17) 1
abbrev s_Net_shortest_path : Stmt := inClass (top 17) 2
abbrev s_Net_push_once : Stmt := inClass (top 17) 3
abbrev s_Net_closure : Stmt := inClass (top 17) 4
abbrev s_may_be : Stmt := top 18
abbrev s_is_name : Stmt := top 24
abbrev s_is_integer : Stmt := top 25
abbrev s_is_price : Stmt := top 26
abbrev s_pair_of : Stmt := top 27
abbrev s_check_places : Stmt := top 28
abbrev s_is_tie : Stmt := top 29
abbrev s_check_ties : Stmt := top 30
abbrev s_check_prices : Stmt := top 31
abbrev s_partners : Stmt := top 32
abbrev s_Web_init : Stmt := inClass (top 33) 0
abbrev s_Web_contains : Stmt := inClass (top 33) 3
abbrev s_Web_add : Stmt := inClass (top 33) 4
abbrev s_Web_places : Stmt := inClass (top 33) 5
abbrev s_Web_ties : Stmt := inClass (top 33) 6
abbrev s_Web_known : Stmt := inClass (top 33) 7
abbrev s_Web_price : Stmt := inClass (top 33) 8
abbrev s_Web_near : Stmt := inClass (top 33) 9
abbrev s_Web_with_tie : Stmt := inClass (top 33) 12
abbrev s_net_of : Stmt := top 35
abbrev s_is_value : Stmt := top 36
abbrev s_worth : Stmt := top 37
abbrev s_can : Stmt := top 39
abbrev s_check_kept : Stmt := top 40
abbrev s_forced : Stmt := top 41
abbrev s_rest_of : Stmt := top 42
abbrev s_Curve_init : Stmt := inClass (top 44) 0
abbrev s_Curve_call : Stmt := inClass (top 44) 5
abbrev s_Curve_sums : Stmt := inClass (top 44) 6
abbrev s_lstream : Stmt := top 46
abbrev s_ldraw : Stmt := top 47
abbrev s_lname : Stmt := top 48
abbrev s_lplaces : Stmt := top 49
abbrev s_lprices : Stmt := top 50
abbrev s_lisint : Stmt := top 51
abbrev s_lhalfweb : Stmt := top 52
abbrev s_lcosts : Stmt := top 53
abbrev s_lbridge : Stmt := top 54
abbrev s_law : Stmt := top 55
abbrev s_Curve_none : Stmt := inClass (top 44) 1
abbrev s_Curve_half : Stmt := inClass (top 44) 2
abbrev s_Curve_both : Stmt := inClass (top 44) 3
/-- one def: where it stands, its name, qualified name, text -/
structure DefH where
  adr : PySem.W.Frag → Addr
  name : Str
  qual : Str
  st : Stmt
/-- the getter of a class's property -/
def pAd (C m : Str) (K : PySem.W.Frag) : Addr := match PySem.W.recIn K (He.ma K (He.ga K C) m) "property" with
  | some (.ref g :: _) => g
  | _ => 0
def gAd (x : Str) (K : PySem.W.Frag) : Addr := He.ga K x
def mAd (C m : Str) (K : PySem.W.Frag) : Addr := He.ma K (He.ga K C) m
def d_Net_init : DefH := ⟨mAd "Net" "__init__", "__init__", "Net.__init__", s_Net_init⟩
def d_Net_join_nodes : DefH := ⟨mAd "Net" "join_nodes", "join_nodes", "Net.join_nodes", s_Net_join_nodes⟩
def d_Net_shortest_path : DefH := ⟨mAd "Net" "shortest_path", "shortest_path", "Net.shortest_path", s_Net_shortest_path⟩
def d_Net_push_once : DefH := ⟨mAd "Net" "push_once", "push_once", "Net.push_once", s_Net_push_once⟩
def d_Net_closure : DefH := ⟨mAd "Net" "closure", "closure", "Net.closure", s_Net_closure⟩
def d_may_be : DefH := ⟨gAd "may_be", "may_be", "may_be", s_may_be⟩
def d_is_name : DefH := ⟨gAd "is_name", "is_name", "is_name", s_is_name⟩
def d_is_integer : DefH := ⟨gAd "is_integer", "is_integer", "is_integer", s_is_integer⟩
def d_is_price : DefH := ⟨gAd "is_price", "is_price", "is_price", s_is_price⟩
def d_pair_of : DefH := ⟨gAd "pair_of", "pair_of", "pair_of", s_pair_of⟩
def d_check_places : DefH := ⟨gAd "check_places", "check_places", "check_places", s_check_places⟩
def d_is_tie : DefH := ⟨gAd "is_tie", "is_tie", "is_tie", s_is_tie⟩
def d_check_ties : DefH := ⟨gAd "check_ties", "check_ties", "check_ties", s_check_ties⟩
def d_check_prices : DefH := ⟨gAd "check_prices", "check_prices", "check_prices", s_check_prices⟩
def d_partners : DefH := ⟨gAd "partners", "partners", "partners", s_partners⟩
def d_Web_init : DefH := ⟨mAd "Web" "__init__", "__init__", "Web.__init__", s_Web_init⟩
def d_Web_contains : DefH := ⟨mAd "Web" "__contains__", "__contains__", "Web.__contains__", s_Web_contains⟩
def d_Web_add : DefH := ⟨mAd "Web" "__add__", "__add__", "Web.__add__", s_Web_add⟩
def d_Web_places : DefH := ⟨mAd "Web" "places", "places", "Web.places", s_Web_places⟩
def d_Web_ties : DefH := ⟨mAd "Web" "ties", "ties", "Web.ties", s_Web_ties⟩
def d_Web_known : DefH := ⟨mAd "Web" "known", "known", "Web.known", s_Web_known⟩
def d_Web_price : DefH := ⟨mAd "Web" "price", "price", "Web.price", s_Web_price⟩
def d_Web_near : DefH := ⟨mAd "Web" "near", "near", "Web.near", s_Web_near⟩
def d_Web_with_tie : DefH := ⟨mAd "Web" "with_tie", "with_tie", "Web.with_tie", s_Web_with_tie⟩
def d_net_of : DefH := ⟨gAd "net_of", "net_of", "net_of", s_net_of⟩
def d_is_value : DefH := ⟨gAd "is_value", "is_value", "is_value", s_is_value⟩
def d_worth : DefH := ⟨gAd "worth", "worth", "worth", s_worth⟩
def d_can : DefH := ⟨gAd "can", "can", "can", s_can⟩
def d_check_kept : DefH := ⟨gAd "check_kept", "check_kept", "check_kept", s_check_kept⟩
def d_forced : DefH := ⟨gAd "forced", "forced", "forced", s_forced⟩
def d_rest_of : DefH := ⟨gAd "rest_of", "rest_of", "rest_of", s_rest_of⟩
def d_Curve_init : DefH := ⟨mAd "Curve" "__init__", "__init__", "Curve.__init__", s_Curve_init⟩
def d_Curve_call : DefH := ⟨mAd "Curve" "__call__", "__call__", "Curve.__call__", s_Curve_call⟩
def d_Curve_sums : DefH := ⟨mAd "Curve" "sums", "sums", "Curve.sums", s_Curve_sums⟩
def d_lstream : DefH := ⟨gAd "_law_stream", "_law_stream", "_law_stream", s_lstream⟩
def d_ldraw : DefH := ⟨gAd "_law_draw", "_law_draw", "_law_draw", s_ldraw⟩
def d_lname : DefH := ⟨gAd "_law_name", "_law_name", "_law_name", s_lname⟩
def d_lplaces : DefH := ⟨gAd "_law_places", "_law_places", "_law_places", s_lplaces⟩
def d_lprices : DefH := ⟨gAd "_law_prices", "_law_prices", "_law_prices", s_lprices⟩
def d_lisint : DefH := ⟨gAd "_law_is_integer", "_law_is_integer", "_law_is_integer", s_lisint⟩
def d_lhalfweb : DefH := ⟨gAd "_law_half_web", "_law_half_web", "_law_half_web", s_lhalfweb⟩
def d_lcosts : DefH := ⟨gAd "_law_costs", "_law_costs", "_law_costs", s_lcosts⟩
def d_lbridge : DefH := ⟨gAd "_law_is_bridge", "_law_is_bridge", "_law_is_bridge", s_lbridge⟩
def d_law : DefH := ⟨gAd "law", "law", "law", s_law⟩
def d_Curve_none : DefH := ⟨pAd "Curve" "none", "none", "Curve.none", s_Curve_none⟩
def d_Curve_half : DefH := ⟨pAd "Curve" "half", "half", "Curve.half", s_Curve_half⟩
def d_Curve_both : DefH := ⟨pAd "Curve" "both", "both", "Curve.both", s_Curve_both⟩
def fnH : List DefH := [d_Net_init, d_Net_join_nodes, d_Net_shortest_path, d_Net_push_once, d_Net_closure, d_may_be, d_is_name, d_is_integer, d_is_price, d_pair_of, d_check_places, d_is_tie, d_check_ties, d_check_prices, d_partners, d_Web_init, d_Web_contains, d_Web_add, d_Web_places, d_Web_ties, d_Web_known, d_Web_price, d_Web_near, d_Web_with_tie, d_net_of, d_is_value, d_worth, d_can, d_check_kept, d_forced, d_rest_of, d_Curve_init, d_Curve_call, d_Curve_sums, d_lstream, d_ldraw, d_lname, d_lplaces, d_lprices, d_lisint, d_lhalfweb, d_lcosts, d_lbridge, d_law, d_Curve_none, d_Curve_half, d_Curve_both]
def loose1 : List Str := ["_wall", "__name__", "HalfError", "BadPlaces", "BadTie", "BadPrice", "NoPlace", "TieThere", "SamePlace", "CommonPlace", "EmptyWeb", "BadList", "TooMany", "BadValue", "BadKept", "BadNumber", "Net", "may_be", "LETTERS", "MOST_PLACES", "MOST_TIES", "MOST_PRICE", "is_name", "is_integer", "is_price", "pair_of", "check_places", "is_tie", "check_ties", "check_prices"]
def loose2 : List Str := ["partners", "Web", "net_of", "is_value", "worth", "can", "check_kept", "forced", "rest_of", "Curve", "_law_stream", "_law_draw", "_law_name", "_law_places", "_law_prices", "_law_is_integer", "_law_half_web", "_law_costs", "_law_is_bridge"]
def looseAll : List Str := loose1 ++ loose2
end HW

set_option Elab.async false
set_option linter.all false
set_option maxRecDepth 100000
set_option maxHeartbeats 0
/-! The head: what the top leaves, by facts. -/
namespace HW
open PySem PySem.Spec PyProof.Rows L2 He
abbrev FnW : Type := Option (Str × Str × Arguments × FuncBody × Scope × Addr × List (Str × Addr) × Addr)
def fnWH (K : PySem.W.Frag) (d : DefH) : FnW := match K.lookup (d.adr K) with
  | some ⟨_, _, .func fd, _⟩ => some (fd.name, fd.qualname, fd.params, fd.body, fd.scope, fd.globals, fd.closure, fd.builtins)
  | _ => none
def DefH.val (d : DefH) : FnW := some (d.name, d.qual, defArgs d.st, .stmts (defBody d.st), defScope d.st, mainGlobals, [], builtinsNs)
def noDf : Value → Bool
  | .none => true
  | _ => false
def DefH.ok (K : PySem.W.Frag) (d : DefH) : Bool := PySem.W.keepIn K (.ref (d.adr K)) && (match K.lookup (d.adr K) with
  | some ⟨_, _, .func fd, _⟩ => PySem.W.codeIn K fd.code d.qual && noDf fd.defaults
  | _ => false)
theorem DefH.funD {K : PySem.W.Frag} {d : DefH} (e : fnWH K d = d.val) (c : d.ok K = true) : ∃ fd, FunD K d.name d.qual (defArgs d.st) (defBody d.st) (defScope d.st) [] [] (d.adr K) fd := by
  obtain ⟨kp, c2⟩ := ba c
  unfold fnWH at e
  cases q : K.lookup (d.adr K) with
  | none =>
    rw [q] at c2
    cases c2
  | some o =>
    obtain ⟨oc, od, dt, osl⟩ := o
    rw [q] at c2 e
    cases dt with
    | func fd =>
      obtain ⟨n1, n2, n3, n4, n5, n6, n7, n8, n9, n10, n11, n12, n13, n14, n15⟩ := fd
      have e2 : (some (n1, n2, n3, n4, n5, n6, n7, n15) : FnW) = some (d.name, d.qual, defArgs d.st, .stmts (defBody d.st), defScope d.st, mainGlobals, [], builtinsNs) := e
      simp only [Option.some.injEq, Prod.mk.injEq] at e2
      obtain ⟨h1, h2, h3, h4, h5, h6, h7, h8⟩ := e2
      subst h1 h2 h3 h4 h5 h6 h7 h8
      have c3 : (PySem.W.codeIn K n13 d.qual && noDf n8) = true := c2
      obtain ⟨k1, k2⟩ := ba c3
      have k3 : n8 = .none := by
        cases n8 <;> first | rfl | (cases k2)
      subst k3
      exact ⟨_, ⟨oc, od, .none, n9, n10, n11, n12, n13, n14, osl, rfl, q, k1, .inl ⟨rfl, rfl⟩, .inl rfl⟩, kp⟩
    | _ => cases c2
/-! ### the Hook -/
abbrev AlH : Type := Bool × List FnW
def obsH (fa : List Fa) (fn : List DefH) (ex : PySem.W.Frag → Bool) (K : PySem.W.Frag) : AlH := ((fa.all fun f => f.ok K) && ((fn.all fun d => d.ok K) && ex K), fn.map fun d => fnWH K d)
def valH (fn : List DefH) : AlH := (true, fn.map DefH.val)
def SaysH (fa : List Fa) (fn : List DefH) (ex : PySem.W.Frag → Bool) (K : PySem.W.Frag) : Prop := obsH fa fn ex K = valH fn
def obsHG (n : Nat) (fa : List Fa) (fn : List DefH) (ex : PySem.W.Frag → Bool) (g : Addr → Option Obj) : AlH := obsH fa fn ex (frG g (asD g n))
def hookH (n : Nat) (fa : List Fa) (fn : List DefH) (ex : PySem.W.Frag → Bool) : PySem.W.Hook where
  α := AlH
  obs := fun s => obsHG n fa fn ex s.heap.get?
  val := fun _ => valH fn
  says := fun _ h => ∃ K : PySem.W.Frag, K.In h ∧ SaysH fa fn ex K
  of := fun _ _ e => ⟨_, frG_in, e⟩
  keeps := fun _ _ _ ⟨K, hK, c⟩ k => ⟨K, PySem.W.Frag.In.keeps hK k, c⟩
theorem obsHG_eq {n : Nat} {fa : List Fa} {fn : List DefH} {ex : PySem.W.Frag → Bool} {g : Addr → Option Obj} {s : Shared} (h : ∀ a, g a = s.heap.get? a) : obsHG n fa fn ex g = (hookH n fa fn ex).obs s := by
  have e : g = s.heap.get? := funext h
  rw [e] <;> rfl
section
variable {fa : List Fa} {fn : List DefH} {ex : PySem.W.Frag → Bool} {K : PySem.W.Frag}
theorem SaysH.b (c : SaysH fa fn ex K) : ((fa.all fun f => f.ok K) && ((fn.all fun d => d.ok K) && ex K)) = true := congrArg (fun z : AlH => z.1) c
theorem SaysH.fact (c : SaysH fa fn ex K) (i : Nat) {f : Fa} (h : fa[i]? = some f := by rfl) : f.ok K = true :=
  List.all_eq_true.mp (ba c.b).1 f (List.mem_of_getElem? h)
theorem SaysH.more (c : SaysH fa fn ex K) : ex K = true := (ba (ba c.b).2).2
theorem SaysH.def_ (c : SaysH fa fn ex K) (i : Nat) {d : DefH} (h : fn[i]? = some d := by rfl) : ∃ fd, FunD K d.name d.qual (defArgs d.st) (defBody d.st) (defScope d.st) [] [] (d.adr K) fd := by
  have c2 := (ba (ba c.b).2).1
  have e : fn.map (fun d => fnWH K d) = fn.map DefH.val := congrArg (fun z : AlH => z.2) c
  have e2 : (fn.map fun d => fnWH K d)[i]? = (fn.map DefH.val)[i]? := by rw [e]
  rw [List.getElem?_map, List.getElem?_map, h] at e2
  exact DefH.funD (Option.some.inj e2) (List.all_eq_true.mp c2 d (List.mem_of_getElem? h))
end
/-! ### what is asked -/
def fa : List Fa := [.cls "Net", .cls "Web", .cls "Curve", .mkr "Net", .mkr "Web", .mkr "Curve",
  .noat "Net" "many", .noat "Net" "source", .noat "Net" "sink", .noat "Net" "heads", .noat "Net" "rooms", .noat "Net" "edges_out", .noat "Net" "total", .noat "Net" "carried",
  .noat "Web" "_prices", .noat "Web" "_beside", .noat "Curve" "_rests",
  .meth "Net" "join_nodes", .meth "Net" "shortest_path", .meth "Net" "push_once", .meth "Net" "closure",
  .meth "Web" "__contains__", .meth "Web" "__add__", .meth "Web" "places", .meth "Web" "ties", .meth "Web" "known", .meth "Web" "price", .meth "Web" "near", .meth "Web" "with_tie",
  .meth "Curve" "__call__", .meth "Curve" "sums",
  .str "LETTERS" "abcdefghijklmnopqrstuvwxyz", .int "MOST_PLACES" 40, .int "MOST_TIES" 400, .int "MOST_PRICE" 1000000000000000000000000000000,
  .free "isinstance", .free "str", .free "len", .free "all", .free "any", .free "int", .free "bool", .free "tuple", .free "enumerate", .free "list", .free "dict", .free "sorted", .free "range", .free "sum", .free "min", .free "max"]
def faG : List Fa := (["Net", "Web", "Curve", "may_be", "is_name", "is_integer", "is_price", "pair_of", "check_places", "is_tie", "check_ties", "check_prices", "partners", "net_of", "is_value", "worth", "can", "check_kept", "forced", "rest_of",
  "_law_stream", "_law_draw", "_law_name", "_law_places", "_law_prices", "_law_is_integer", "_law_half_web", "_law_costs", "_law_is_bridge", "law"] : List Str).map Fa.glo
def propB (K : PySem.W.Frag) (C f : Str) : Bool := eqO (PySem.W.findIn K (.ref (ga K C)) f) (some (some (.ref (ma K (ga K C) f)))) && (eqO (PySem.W.specialIn K (.ref (ma K (ga K C) f)) "__get__") (some (some (.builtin "property.__get__"))) &&
  (decide (PySem.W.takesIn K (.ref (ma K (ga K C) f)) = some true) && (match PySem.W.recIn K (ma K (ga K C) f) "property" with
    | some (.ref g :: _) => true
    | _ => false)))
def insB (K : PySem.W.Frag) (C : Str) : Bool := eqO (PySem.W.findIn K (.ref (ga K C)) "__class__") (some (some (.builtin "object.__class__"))) && (eqO (PySem.W.specialIn K (.builtin "object.__class__") "__get__") (some (some (.builtin "getset_descriptor.__get__"))) &&
  (decide (PySem.W.takesIn K (.builtin "object.__class__") = some true) && (decide (PySem.W.mroIn K (ga K C) (.type "object") = some true) && decide (PySem.W.kitOne K (.ref (ga K C)) (.ref (ga K C)) = some true))))
def exB (K : PySem.W.Frag) : Bool := propB K "Curve" "none" && (propB K "Curve" "half" && (propB K "Curve" "both" && (insB K "Web" && (PySem.W.selfFirst K (ga K "Web") && PySem.W.fnIn K (ma K (ga K "Curve") "__call__")))))
abbrev R : PySem.W.OpenRow := PySem.W.OpenLaw.row PySem.Challenge.rw_halfpicked_k82_whole_bridges
end HW

set_option Elab.async false
set_option linter.all false
set_option maxRecDepth 100000
set_option maxHeartbeats 0
namespace HW
open PySem PySem.Spec PyProof.Rows L2 He
abbrev hk : PySem.W.Hook := hookH 6 (fa ++ faG) fnH exB
def ob (s : PySem.W.SharedT) : AlH := obsHG 6 (fa ++ faG) fnH exB (HandSHeadRun.getT s)
theorem ob_eq (s : PySem.W.SharedT) : ob s = hk.obs s.abs := obsHG_eq (HandSHeadRun.getT_eq s)
theorem run (w : World) : HandSHeadRun.RunEq R (PySem.W.view R.prog [55]) hk ob 6000 looseAll w := by
  intro os
  kernel_rfl
end HW

set_option Elab.async false
set_option linter.all false
set_option maxRecDepth 100000
set_option maxHeartbeats 2000000
/-! What the top leaves, by name; the calls of own methods. -/
namespace HW
open PySem PySem.Spec PyProof.Rows L2 He
open C8 (Cal Met Mak pe_c pe_mk pe_mt pe_mt0 pe_gc InsC call_isC)
structure Txt (K : PySem.W.Frag) (mg : Str → Option Value) : Prop where
  says : SaysH (fa ++ faG) fnH exB K
  at_ : ∃ h : Heap, K.In h ∧ h.Ns mainGlobals mg
section
variable {K : PySem.W.Frag} {mg : Str → Option Value}
abbrev aNet (K : PySem.W.Frag) : Addr := ga K "Net"
abbrev aWeb (K : PySem.W.Frag) : Addr := ga K "Web"
abbrev aCurve (K : PySem.W.Frag) : Addr := ga K "Curve"
theorem Txt.c_Net (T : Txt K mg) : Cls K (ga K "Net") := cls_ok (x := "Net") (T.says.fact 0 (f := .cls "Net") rfl)
theorem Txt.c_Web (T : Txt K mg) : Cls K (ga K "Web") := cls_ok (x := "Web") (T.says.fact 1 (f := .cls "Web") rfl)
theorem Txt.c_Curve (T : Txt K mg) : Cls K (ga K "Curve") := cls_ok (x := "Curve") (T.says.fact 2 (f := .cls "Curve") rfl)
theorem Txt.mk_Net (T : Txt K mg) : Mk K (ga K "Net") (ma K (ga K "Net") "__init__") := mkr_ok (x := "Net") (T.says.fact 3 (f := .mkr "Net") rfl)
theorem Txt.mk_Web (T : Txt K mg) : Mk K (ga K "Web") (ma K (ga K "Web") "__init__") := mkr_ok (x := "Web") (T.says.fact 4 (f := .mkr "Web") rfl)
theorem Txt.mk_Curve (T : Txt K mg) : Mk K (ga K "Curve") (ma K (ga K "Curve") "__init__") := mkr_ok (x := "Curve") (T.says.fact 5 (f := .mkr "Curve") rfl)
theorem Txt.n_Net_many (T : Txt K mg) : NoAttr K (ga K "Net") "many" := noat_ok (x := "Net") (T.says.fact 6 (f := .noat "Net" "many") rfl)
theorem Txt.n_Net_source (T : Txt K mg) : NoAttr K (ga K "Net") "source" := noat_ok (x := "Net") (T.says.fact 7 (f := .noat "Net" "source") rfl)
theorem Txt.n_Net_sink (T : Txt K mg) : NoAttr K (ga K "Net") "sink" := noat_ok (x := "Net") (T.says.fact 8 (f := .noat "Net" "sink") rfl)
theorem Txt.n_Net_heads (T : Txt K mg) : NoAttr K (ga K "Net") "heads" := noat_ok (x := "Net") (T.says.fact 9 (f := .noat "Net" "heads") rfl)
theorem Txt.n_Net_rooms (T : Txt K mg) : NoAttr K (ga K "Net") "rooms" := noat_ok (x := "Net") (T.says.fact 10 (f := .noat "Net" "rooms") rfl)
theorem Txt.n_Net_edges_out (T : Txt K mg) : NoAttr K (ga K "Net") "edges_out" := noat_ok (x := "Net") (T.says.fact 11 (f := .noat "Net" "edges_out") rfl)
theorem Txt.n_Net_total (T : Txt K mg) : NoAttr K (ga K "Net") "total" := noat_ok (x := "Net") (T.says.fact 12 (f := .noat "Net" "total") rfl)
theorem Txt.n_Net_carried (T : Txt K mg) : NoAttr K (ga K "Net") "carried" := noat_ok (x := "Net") (T.says.fact 13 (f := .noat "Net" "carried") rfl)
theorem Txt.n_Web_prices (T : Txt K mg) : NoAttr K (ga K "Web") "_prices" := noat_ok (x := "Web") (T.says.fact 14 (f := .noat "Web" "_prices") rfl)
theorem Txt.n_Web_beside (T : Txt K mg) : NoAttr K (ga K "Web") "_beside" := noat_ok (x := "Web") (T.says.fact 15 (f := .noat "Web" "_beside") rfl)
theorem Txt.n_Curve_rests (T : Txt K mg) : NoAttr K (ga K "Curve") "_rests" := noat_ok (x := "Curve") (T.says.fact 16 (f := .noat "Curve" "_rests") rfl)
theorem Txt.m_Net_join_nodes (T : Txt K mg) : Meth K (ga K "Net") "join_nodes" (ma K (ga K "Net") "join_nodes") := meth_ok (x := "Net") (T.says.fact 17 (f := .meth "Net" "join_nodes") rfl)
theorem Txt.m_Net_shortest_path (T : Txt K mg) : Meth K (ga K "Net") "shortest_path" (ma K (ga K "Net") "shortest_path") := meth_ok (x := "Net") (T.says.fact 18 (f := .meth "Net" "shortest_path") rfl)
theorem Txt.m_Net_push_once (T : Txt K mg) : Meth K (ga K "Net") "push_once" (ma K (ga K "Net") "push_once") := meth_ok (x := "Net") (T.says.fact 19 (f := .meth "Net" "push_once") rfl)
theorem Txt.m_Net_closure (T : Txt K mg) : Meth K (ga K "Net") "closure" (ma K (ga K "Net") "closure") := meth_ok (x := "Net") (T.says.fact 20 (f := .meth "Net" "closure") rfl)
theorem Txt.m_Web_contains (T : Txt K mg) : Meth K (ga K "Web") "__contains__" (ma K (ga K "Web") "__contains__") := meth_ok (x := "Web") (T.says.fact 21 (f := .meth "Web" "__contains__") rfl)
theorem Txt.m_Web_add (T : Txt K mg) : Meth K (ga K "Web") "__add__" (ma K (ga K "Web") "__add__") := meth_ok (x := "Web") (T.says.fact 22 (f := .meth "Web" "__add__") rfl)
theorem Txt.m_Web_places (T : Txt K mg) : Meth K (ga K "Web") "places" (ma K (ga K "Web") "places") := meth_ok (x := "Web") (T.says.fact 23 (f := .meth "Web" "places") rfl)
theorem Txt.m_Web_ties (T : Txt K mg) : Meth K (ga K "Web") "ties" (ma K (ga K "Web") "ties") := meth_ok (x := "Web") (T.says.fact 24 (f := .meth "Web" "ties") rfl)
theorem Txt.m_Web_known (T : Txt K mg) : Meth K (ga K "Web") "known" (ma K (ga K "Web") "known") := meth_ok (x := "Web") (T.says.fact 25 (f := .meth "Web" "known") rfl)
theorem Txt.m_Web_price (T : Txt K mg) : Meth K (ga K "Web") "price" (ma K (ga K "Web") "price") := meth_ok (x := "Web") (T.says.fact 26 (f := .meth "Web" "price") rfl)
theorem Txt.m_Web_near (T : Txt K mg) : Meth K (ga K "Web") "near" (ma K (ga K "Web") "near") := meth_ok (x := "Web") (T.says.fact 27 (f := .meth "Web" "near") rfl)
theorem Txt.m_Web_with_tie (T : Txt K mg) : Meth K (ga K "Web") "with_tie" (ma K (ga K "Web") "with_tie") := meth_ok (x := "Web") (T.says.fact 28 (f := .meth "Web" "with_tie") rfl)
theorem Txt.m_Curve_call (T : Txt K mg) : Meth K (ga K "Curve") "__call__" (ma K (ga K "Curve") "__call__") := meth_ok (x := "Curve") (T.says.fact 29 (f := .meth "Curve" "__call__") rfl)
theorem Txt.m_Curve_sums (T : Txt K mg) : Meth K (ga K "Curve") "sums" (ma K (ga K "Curve") "sums") := meth_ok (x := "Curve") (T.says.fact 30 (f := .meth "Curve" "sums") rfl)
theorem Txt.k_LETTERS (T : Txt K mg) : ∃ u, mg "LETTERS" = some u ∧ RelV (.str "abcdefghijklmnopqrstuvwxyz") u := by
  obtain ⟨h, X, G⟩ := T.at_
  obtain ⟨t, e⟩ := str_ok X G (T.says.fact 31 (f := .str "LETTERS" "abcdefghijklmnopqrstuvwxyz") rfl)
  exact ⟨_, e, t, rfl⟩
theorem Txt.k_MOST_PLACES (T : Txt K mg) : ∃ u, mg "MOST_PLACES" = some u ∧ RelV (.int 40) u := by
  obtain ⟨h, X, G⟩ := T.at_
  obtain ⟨t, e⟩ := int_ok X G (T.says.fact 32 (f := .int "MOST_PLACES" 40) rfl)
  exact ⟨_, e, t, rfl⟩
theorem Txt.k_MOST_TIES (T : Txt K mg) : ∃ u, mg "MOST_TIES" = some u ∧ RelV (.int 400) u := by
  obtain ⟨h, X, G⟩ := T.at_
  obtain ⟨t, e⟩ := int_ok X G (T.says.fact 33 (f := .int "MOST_TIES" 400) rfl)
  exact ⟨_, e, t, rfl⟩
theorem Txt.k_MOST_PRICE (T : Txt K mg) : ∃ u, mg "MOST_PRICE" = some u ∧ RelV (.int 1000000000000000000000000000000) u := by
  obtain ⟨h, X, G⟩ := T.at_
  obtain ⟨t, e⟩ := int_ok X G (T.says.fact 34 (f := .int "MOST_PRICE" 1000000000000000000000000000000) rfl)
  exact ⟨_, e, t, rfl⟩
theorem Txt.f_isinstance (T : Txt K mg) : mg "isinstance" = none := by
  obtain ⟨h, X, G⟩ := T.at_
  exact free_ok X G (T.says.fact 35 (f := .free "isinstance") rfl)
theorem Txt.f_str (T : Txt K mg) : mg "str" = none := by
  obtain ⟨h, X, G⟩ := T.at_
  exact free_ok X G (T.says.fact 36 (f := .free "str") rfl)
theorem Txt.f_len (T : Txt K mg) : mg "len" = none := by
  obtain ⟨h, X, G⟩ := T.at_
  exact free_ok X G (T.says.fact 37 (f := .free "len") rfl)
theorem Txt.f_all (T : Txt K mg) : mg "all" = none := by
  obtain ⟨h, X, G⟩ := T.at_
  exact free_ok X G (T.says.fact 38 (f := .free "all") rfl)
theorem Txt.f_any (T : Txt K mg) : mg "any" = none := by
  obtain ⟨h, X, G⟩ := T.at_
  exact free_ok X G (T.says.fact 39 (f := .free "any") rfl)
theorem Txt.f_int (T : Txt K mg) : mg "int" = none := by
  obtain ⟨h, X, G⟩ := T.at_
  exact free_ok X G (T.says.fact 40 (f := .free "int") rfl)
theorem Txt.f_bool (T : Txt K mg) : mg "bool" = none := by
  obtain ⟨h, X, G⟩ := T.at_
  exact free_ok X G (T.says.fact 41 (f := .free "bool") rfl)
theorem Txt.f_tuple (T : Txt K mg) : mg "tuple" = none := by
  obtain ⟨h, X, G⟩ := T.at_
  exact free_ok X G (T.says.fact 42 (f := .free "tuple") rfl)
theorem Txt.f_enumerate (T : Txt K mg) : mg "enumerate" = none := by
  obtain ⟨h, X, G⟩ := T.at_
  exact free_ok X G (T.says.fact 43 (f := .free "enumerate") rfl)
theorem Txt.f_list (T : Txt K mg) : mg "list" = none := by
  obtain ⟨h, X, G⟩ := T.at_
  exact free_ok X G (T.says.fact 44 (f := .free "list") rfl)
theorem Txt.f_dict (T : Txt K mg) : mg "dict" = none := by
  obtain ⟨h, X, G⟩ := T.at_
  exact free_ok X G (T.says.fact 45 (f := .free "dict") rfl)
theorem Txt.f_sorted (T : Txt K mg) : mg "sorted" = none := by
  obtain ⟨h, X, G⟩ := T.at_
  exact free_ok X G (T.says.fact 46 (f := .free "sorted") rfl)
theorem Txt.f_range (T : Txt K mg) : mg "range" = none := by
  obtain ⟨h, X, G⟩ := T.at_
  exact free_ok X G (T.says.fact 47 (f := .free "range") rfl)
theorem Txt.f_sum (T : Txt K mg) : mg "sum" = none := by
  obtain ⟨h, X, G⟩ := T.at_
  exact free_ok X G (T.says.fact 48 (f := .free "sum") rfl)
theorem Txt.f_min (T : Txt K mg) : mg "min" = none := by
  obtain ⟨h, X, G⟩ := T.at_
  exact free_ok X G (T.says.fact 49 (f := .free "min") rfl)
theorem Txt.f_max (T : Txt K mg) : mg "max" = none := by
  obtain ⟨h, X, G⟩ := T.at_
  exact free_ok X G (T.says.fact 50 (f := .free "max") rfl)
theorem Txt.g_Net (T : Txt K mg) : mg "Net" = some (.ref (ga K "Net")) := by
  obtain ⟨h, X, G⟩ := T.at_
  exact glo_ok X G (T.says.fact 51 (f := .glo "Net") rfl)
theorem Txt.g_Web (T : Txt K mg) : mg "Web" = some (.ref (ga K "Web")) := by
  obtain ⟨h, X, G⟩ := T.at_
  exact glo_ok X G (T.says.fact 52 (f := .glo "Web") rfl)
theorem Txt.g_Curve (T : Txt K mg) : mg "Curve" = some (.ref (ga K "Curve")) := by
  obtain ⟨h, X, G⟩ := T.at_
  exact glo_ok X G (T.says.fact 53 (f := .glo "Curve") rfl)
theorem Txt.g_may_be (T : Txt K mg) : mg "may_be" = some (.ref (ga K "may_be")) := by
  obtain ⟨h, X, G⟩ := T.at_
  exact glo_ok X G (T.says.fact 54 (f := .glo "may_be") rfl)
theorem Txt.g_is_name (T : Txt K mg) : mg "is_name" = some (.ref (ga K "is_name")) := by
  obtain ⟨h, X, G⟩ := T.at_
  exact glo_ok X G (T.says.fact 55 (f := .glo "is_name") rfl)
theorem Txt.g_is_integer (T : Txt K mg) : mg "is_integer" = some (.ref (ga K "is_integer")) := by
  obtain ⟨h, X, G⟩ := T.at_
  exact glo_ok X G (T.says.fact 56 (f := .glo "is_integer") rfl)
theorem Txt.g_is_price (T : Txt K mg) : mg "is_price" = some (.ref (ga K "is_price")) := by
  obtain ⟨h, X, G⟩ := T.at_
  exact glo_ok X G (T.says.fact 57 (f := .glo "is_price") rfl)
theorem Txt.g_pair_of (T : Txt K mg) : mg "pair_of" = some (.ref (ga K "pair_of")) := by
  obtain ⟨h, X, G⟩ := T.at_
  exact glo_ok X G (T.says.fact 58 (f := .glo "pair_of") rfl)
theorem Txt.g_check_places (T : Txt K mg) : mg "check_places" = some (.ref (ga K "check_places")) := by
  obtain ⟨h, X, G⟩ := T.at_
  exact glo_ok X G (T.says.fact 59 (f := .glo "check_places") rfl)
theorem Txt.g_is_tie (T : Txt K mg) : mg "is_tie" = some (.ref (ga K "is_tie")) := by
  obtain ⟨h, X, G⟩ := T.at_
  exact glo_ok X G (T.says.fact 60 (f := .glo "is_tie") rfl)
theorem Txt.g_check_ties (T : Txt K mg) : mg "check_ties" = some (.ref (ga K "check_ties")) := by
  obtain ⟨h, X, G⟩ := T.at_
  exact glo_ok X G (T.says.fact 61 (f := .glo "check_ties") rfl)
theorem Txt.g_check_prices (T : Txt K mg) : mg "check_prices" = some (.ref (ga K "check_prices")) := by
  obtain ⟨h, X, G⟩ := T.at_
  exact glo_ok X G (T.says.fact 62 (f := .glo "check_prices") rfl)
theorem Txt.g_partners (T : Txt K mg) : mg "partners" = some (.ref (ga K "partners")) := by
  obtain ⟨h, X, G⟩ := T.at_
  exact glo_ok X G (T.says.fact 63 (f := .glo "partners") rfl)
theorem Txt.g_net_of (T : Txt K mg) : mg "net_of" = some (.ref (ga K "net_of")) := by
  obtain ⟨h, X, G⟩ := T.at_
  exact glo_ok X G (T.says.fact 64 (f := .glo "net_of") rfl)
theorem Txt.g_is_value (T : Txt K mg) : mg "is_value" = some (.ref (ga K "is_value")) := by
  obtain ⟨h, X, G⟩ := T.at_
  exact glo_ok X G (T.says.fact 65 (f := .glo "is_value") rfl)
theorem Txt.g_worth (T : Txt K mg) : mg "worth" = some (.ref (ga K "worth")) := by
  obtain ⟨h, X, G⟩ := T.at_
  exact glo_ok X G (T.says.fact 66 (f := .glo "worth") rfl)
theorem Txt.g_can (T : Txt K mg) : mg "can" = some (.ref (ga K "can")) := by
  obtain ⟨h, X, G⟩ := T.at_
  exact glo_ok X G (T.says.fact 67 (f := .glo "can") rfl)
theorem Txt.g_check_kept (T : Txt K mg) : mg "check_kept" = some (.ref (ga K "check_kept")) := by
  obtain ⟨h, X, G⟩ := T.at_
  exact glo_ok X G (T.says.fact 68 (f := .glo "check_kept") rfl)
theorem Txt.g_forced (T : Txt K mg) : mg "forced" = some (.ref (ga K "forced")) := by
  obtain ⟨h, X, G⟩ := T.at_
  exact glo_ok X G (T.says.fact 69 (f := .glo "forced") rfl)
theorem Txt.g_rest_of (T : Txt K mg) : mg "rest_of" = some (.ref (ga K "rest_of")) := by
  obtain ⟨h, X, G⟩ := T.at_
  exact glo_ok X G (T.says.fact 70 (f := .glo "rest_of") rfl)
theorem Txt.g__law_stream (T : Txt K mg) : mg "_law_stream" = some (.ref (ga K "_law_stream")) := by
  obtain ⟨h, X, G⟩ := T.at_
  exact glo_ok X G (T.says.fact 71 (f := .glo "_law_stream") rfl)
theorem Txt.g__law_draw (T : Txt K mg) : mg "_law_draw" = some (.ref (ga K "_law_draw")) := by
  obtain ⟨h, X, G⟩ := T.at_
  exact glo_ok X G (T.says.fact 72 (f := .glo "_law_draw") rfl)
theorem Txt.g__law_name (T : Txt K mg) : mg "_law_name" = some (.ref (ga K "_law_name")) := by
  obtain ⟨h, X, G⟩ := T.at_
  exact glo_ok X G (T.says.fact 73 (f := .glo "_law_name") rfl)
theorem Txt.g__law_places (T : Txt K mg) : mg "_law_places" = some (.ref (ga K "_law_places")) := by
  obtain ⟨h, X, G⟩ := T.at_
  exact glo_ok X G (T.says.fact 74 (f := .glo "_law_places") rfl)
theorem Txt.g__law_prices (T : Txt K mg) : mg "_law_prices" = some (.ref (ga K "_law_prices")) := by
  obtain ⟨h, X, G⟩ := T.at_
  exact glo_ok X G (T.says.fact 75 (f := .glo "_law_prices") rfl)
theorem Txt.g__law_is_integer (T : Txt K mg) : mg "_law_is_integer" = some (.ref (ga K "_law_is_integer")) := by
  obtain ⟨h, X, G⟩ := T.at_
  exact glo_ok X G (T.says.fact 76 (f := .glo "_law_is_integer") rfl)
theorem Txt.g__law_half_web (T : Txt K mg) : mg "_law_half_web" = some (.ref (ga K "_law_half_web")) := by
  obtain ⟨h, X, G⟩ := T.at_
  exact glo_ok X G (T.says.fact 77 (f := .glo "_law_half_web") rfl)
theorem Txt.g__law_costs (T : Txt K mg) : mg "_law_costs" = some (.ref (ga K "_law_costs")) := by
  obtain ⟨h, X, G⟩ := T.at_
  exact glo_ok X G (T.says.fact 78 (f := .glo "_law_costs") rfl)
theorem Txt.g__law_is_bridge (T : Txt K mg) : mg "_law_is_bridge" = some (.ref (ga K "_law_is_bridge")) := by
  obtain ⟨h, X, G⟩ := T.at_
  exact glo_ok X G (T.says.fact 79 (f := .glo "_law_is_bridge") rfl)
theorem Txt.g_law (T : Txt K mg) : mg "law" = some (.ref (ga K "law")) := by
  obtain ⟨h, X, G⟩ := T.at_
  exact glo_ok X G (T.says.fact 80 (f := .glo "law") rfl)
theorem Txt.ex (T : Txt K mg) : exB K = true := T.says.more
theorem propB_ok {C f : Str} (h : propB K C f = true) : PropOf K (ga K C) f (ma K (ga K C) f) (pAd C f K) := by
  unfold propB at h
  obtain ⟨h1, h⟩ := ba h
  obtain ⟨h2, h⟩ := ba h
  obtain ⟨h3, h4⟩ := ba h
  refine ⟨eqO_ok h1, eqO_ok h2, of_decide_eq_true h3, ?_⟩
  unfold pAd
  revert h4
  cases e : PySem.W.recIn K (ma K (ga K C) f) "property" with
  | none => intro h4; cases h4
  | some l =>
    cases l with
    | nil => intro h4; cases h4
    | cons v r =>
      cases v <;> intro h4 <;> first | exact ⟨r, rfl⟩ | (cases h4; done)
theorem Txt.p_Curve_none (T : Txt K mg) : PropOf K (ga K "Curve") "none" (ma K (ga K "Curve") "none") (pAd "Curve" "none" K) := propB_ok (ba T.ex).1
theorem Txt.p_Curve_half (T : Txt K mg) : PropOf K (ga K "Curve") "half" (ma K (ga K "Curve") "half") (pAd "Curve" "half" K) := propB_ok (ba (ba T.ex).2).1
theorem Txt.p_Curve_both (T : Txt K mg) : PropOf K (ga K "Curve") "both" (ma K (ga K "Curve") "both") (pAd "Curve" "both" K) := propB_ok (ba (ba (ba T.ex).2).2).1
theorem Txt.ins_Web (T : Txt K mg) : InsC K (ga K "Web") := by
  have h := (ba (ba (ba (ba T.ex).2).2).2).1
  unfold insB at h
  obtain ⟨h1, h⟩ := ba h
  obtain ⟨h2, h⟩ := ba h
  obtain ⟨h3, h⟩ := ba h
  obtain ⟨h4, h5⟩ := ba h
  exact ⟨T.c_Web, eqO_ok h1, eqO_ok h2, of_decide_eq_true h3, of_decide_eq_true h4, of_decide_eq_true h5⟩
theorem Txt.self_Web (T : Txt K mg) : PySem.W.selfFirst K (ga K "Web") = true := (ba (ba (ba (ba (ba T.ex).2).2).2).2).1
theorem Txt.callO (T : Txt K mg) : StX.CallO K (ga K "Curve") (ma K (ga K "Curve") "__call__") := ⟨T.m_Curve_call.at_, T.m_Curve_call.fn, (ba (ba (ba (ba (ba T.ex).2).2).2).2).2⟩
end
/-! ### defs, methods, makers, getters -/
section
variable {P : Program} {w : World} {K : PySem.W.Frag} {mg : Str → Option Value} {base : Heap}
theorem FunD.ok0 {x qual : Str} {params : Arguments} {body : List Stmt} {scope : Scope} {f : Addr} {fd : FuncData} {N ps : List Str} {k : Nat} {sp : Sp} (F : FunD K x qual params body scope [] [] f fd) (S : FnScope N ps scope) (len : ∀ vs H Q E, sp vs H Q E → vs.length = ps.length)
    (hbody : ∀ (cdv : Value) (A : Around) (outer : List Env) (s : Shared) (H : Hp) (vs : List V) (Q : VK) (E : XK), Room k (A.deeper (envOfC qual scope s.heap.objs.size f cdv)) → sp vs H Q E →
      ∃ t, PSs (cxOf CX0 P w K mg base N qual scope f cdv A outer s H E).nox body t ∧ t { nx := fun _ H' => Q .non H', rt := Q } (start N vs) H) : FnOk P w K mg base CX0 (k + 1) f fd ps sp := by
  obtain ⟨oc, od, dV, kV, doc, pm, an, cdv, ct, osl, rfl, lk, hcd, _, _⟩ := F.ex
  refine fn_of lk hcd S len fun A outer s H vs Q E hr hsp => ?_
  obtain ⟨t, h, q⟩ := hbody cdv A outer s H vs Q E hr hsp
  exact ⟨t, h.nox, q⟩
/-- what is shown of a def's body: D its text -/
abbrev Body (P : Program) (w : World) (K : PySem.W.Frag) (mg : Str → Option Value) (base : Heap) (D : DefH) (N : List Str) (k : Nat) (sp : Sp) : Prop :=
  ∀ (cdv : Value) (A : Around) (outer : List Env) (s : Shared) (H : Hp) (vs : List V) (Q : VK) (E : XK), Room k (A.deeper (envOfC D.qual (defScope D.st) s.heap.objs.size (D.adr K) cdv)) → sp vs H Q E →
    ∃ t, PSs (cxOf CX0 P w K mg base N D.qual (defScope D.st) (D.adr K) cdv A outer s H E).nox (defBody D.st) t ∧ t { nx := fun _ H' => Q .non H', rt := Q } (start N vs) H
abbrev BindD (D : DefH) (ps : List Str) : Prop := ∀ (kV doc pm : Value) (an : Option Addr) (cdv ct : Value) (us : List Value), us.length = ps.length →
  bindArgs (PySem.W.fnOf D.name D.qual (defArgs D.st) (defBody D.st) (defScope D.st) .none kV doc pm an cdv ct) ⟨us, []⟩ = pure (ps.zip us)
theorem cal_of {D : DefH} {x : Str} {N ps : List Str} {k : Nat} {sp : Sp} (d : ∃ fd, FunD K D.name D.qual (defArgs D.st) (defBody D.st) (defScope D.st) [] [] (D.adr K) fd) (g : mg x = some (.ref (D.adr K))) (b : BindD D ps) (S : FnScope N ps (defScope D.st))
    (len : ∀ vs H Q E, sp vs H Q E → vs.length = ps.length) (hbody : Body P w K mg base D N k sp) : Cal P w K mg base (k + 1) x sp [] := by
  obtain ⟨fd, F⟩ := d
  exact ⟨_, fd, ps, [], FunD.ok0 F S len hbody, g, F.kp, F.bindsN b, .nil⟩
theorem met_of {D : DefH} {C : Addr} {m : Str} {N ps : List Str} {k : Nat} {sp : Sp} (d : ∃ fd, FunD K D.name D.qual (defArgs D.st) (defBody D.st) (defScope D.st) [] [] (D.adr K) fd) (c : Cls K C) (me : Meth K C m (D.adr K)) (b : BindD D ps) (S : FnScope N ps (defScope D.st))
    (len : ∀ vs H Q E, sp vs H Q E → vs.length = ps.length) (hbody : Body P w K mg base D N k sp) : Met P w K mg base (k + 1) C m sp [] := by
  obtain ⟨fd, F⟩ := d
  exact ⟨_, fd, ps, [], c, me, FunD.ok0 F S len hbody, F.bindsN b, .nil⟩
theorem mak_of {D : DefH} {C : Addr} {x : Str} {N ps : List Str} {k : Nat} {sp : Sp} (d : ∃ fd, FunD K D.name D.qual (defArgs D.st) (defBody D.st) (defScope D.st) [] [] (D.adr K) fd) (M : Mk K C (D.adr K)) (g : mg x = some (.ref C)) (b : BindD D ps) (S : FnScope N ps (defScope D.st))
    (len : ∀ vs H Q E, sp vs H Q E → vs.length = ps.length) (hbody : Body P w K mg base D N k sp) : Mak P w K mg base (k + 1) x C sp [] := by
  obtain ⟨fd, F⟩ := d
  exact ⟨_, fd, ps, [], M, FunD.ok0 F S len hbody, g, F.bindsN b, .nil⟩
/-- a property's getter -/
structure Prp (P : Program) (w : World) (K : PySem.W.Frag) (mg : Str → Option Value) (base : Heap) (k : Nat) (C : Addr) (f : Str) (sp : Sp) : Prop where
  ex : ∃ (p g : Addr) (fd : FuncData) (ps : List Str), Cls K C ∧ PropOf K C f p g ∧ FnOk P w K mg base CX0 k g fd ps sp ∧ Binds K fd ps []
theorem prp_of {D : DefH} {C p : Addr} {f : Str} {N ps : List Str} {k : Nat} {sp : Sp} (d : ∃ fd, FunD K D.name D.qual (defArgs D.st) (defBody D.st) (defScope D.st) [] [] (D.adr K) fd) (c : Cls K C) (hp : PropOf K C f p (D.adr K)) (b : BindD D ps) (S : FnScope N ps (defScope D.st))
    (len : ∀ vs H Q E, sp vs H Q E → vs.length = ps.length) (hbody : Body P w K mg base D N k sp) : Prp P w K mg base (k + 1) C f sp := by
  obtain ⟨fd, F⟩ := d
  exact ⟨_, _, fd, ps, c, hp, FunD.ok0 F S len hbody, F.bindsN b⟩
end
section
variable {X : Cx} {k j : Nat} {C : Addr} {sp : Sp} {e fe : Expr} {es : List Expr} {f : Str} {pos : Pos} {ta tf : TE} {t : TA}
theorem vals_nil {ds : List Value} (h : Vals [] ds) : ds = [] := by cases h; rfl
theorem op_inM (c : Met X.prog X.w X.K X.mg X.base k C "__contains__" sp []) (hr : Room j X.A) (hk : k ≤ j) : OpR X (compareOp .In) (rInO C sp E0 false) := by
  obtain ⟨g, fd, ps, ds, hc, hm, F, b, d⟩ := c.ex
  obtain rfl := vals_nil d
  exact op_inO ⟨hm.at_, hm.fn⟩ F (hr.mono hk) b pass0
theorem op_notInM (c : Met X.prog X.w X.K X.mg X.base k C "__contains__" sp []) (hr : Room j X.A) (hk : k ≤ j) : OpR X (compareOp .NotIn) (rInO C sp E0 true) := by
  obtain ⟨g, fd, ps, ds, hc, hm, F, b, d⟩ := c.ex
  obtain rfl := vals_nil d
  exact op_notInO ⟨hm.at_, hm.fn⟩ F (hr.mono hk) b pass0
theorem op_addM (c : Met X.prog X.w X.K X.mg X.base k C "__add__" sp []) (hs : PySem.W.selfFirst X.K C = true) (hr : Room j X.A) (hk : k ≤ j) : OpR X (binaryOp .Add) (rAddO C sp E0) := by
  obtain ⟨g, fd, ps, ds, hc, hm, F, b, d⟩ := c.ex
  obtain rfl := vals_nil d
  exact op_addO ⟨hm.at_, hm.fn⟩ hs F (hr.mono hk) b pass0
theorem pe_prp (c : Prp X.prog X.w X.K X.mg X.base k C f sp) (hr : Room j X.A) (hk : k + 1 ≤ j) (ha : PE X e ta) (hab : attributeBase e f X.env (eval e X.env) = eval e X.env := by rfl) : PE X (.Attribute e f pos) (tProp C sp [] E0 ta) := by
  obtain ⟨p, g, fd, ps, hc, hp, F, b⟩ := c.ex
  exact pe_prop ha hc hp F (hr.mono hk) b .nil pass0 hab
theorem pe_callM {g : Addr} (co : StX.CallO X.K C g) (c : Met X.prog X.w X.K X.mg X.base k C "__call__" sp []) (hr : Room j X.A) (hk : k ≤ j) (hf : PE X fe tf) (ha : PA X (e :: es) t)
    (ht : eval (.Call fe (e :: es) [] pos) X.env = (do callWith pos (← eval fe X.env) [] (backTo pos (starEach (e :: es) X.env)) (backToKw pos (keywordEach [] X.env))) := by rfl)
    (he : starEach (e :: es) X.env = (false, eval e X.env) :: starEach es X.env := by rfl) (hpl : (backTo pos (starEach es X.env)).any (·.1) = false := by rfl) : PE X (.Call fe (e :: es) [] pos) (StX.tCallO X C sp E0 tf t) := by
  obtain ⟨g', fd, ps, ds, hc, hm, F, b, d⟩ := c.ex
  obtain rfl := vals_nil d
  have eg : g = g' := by
    have q := co.at_.symm.trans hm.at_
    injection q with q; injection q with q; injection q
  subst eg
  have FR : FnR X.prog X.w X.K X.mg X.base CX0 k g sp := (F.raw b .nil).imp fun vs H Q E h => by rw [List.append_nil]; exact h
  exact StX.pe_callO hf co FR (hr.mono hk) pass0 ha ht he hpl
end
end HW

set_option Elab.async false
set_option linter.all false
set_option maxRecDepth 100000
set_option maxHeartbeats 4000000
/-! Short words for the readings. -/
namespace HW
open PySem PySem.Spec PyProof.Rows L2 He
section
variable {X : Cx} {x : Str} {n : String} {pos : Pos}
theorem pe_ty (hg : Gl X x) (hm : X.mg x = none) (hv : bootBuiltins x = some (.type n)) (hn : x ≠ "__name__" := by decide) (hd : (x == ("__debug__" : Str)) = false := by decide) : PE X (.Name x pos) (tC (.ty n)) := pe_bltn hg hm hv rfl hn hd
end
section
variable {K : PySem.W.Frag} {H : Hp} {Q : VK} {i : Int} {b : Bool} {z : Str} {a : Addr} {xs : List V} {kvs : List (Key × V)}
theorem isi_ii (h : Q (.bl true) H) : rIsi K [.int i, .ty "int"] H Q := ⟨_, _, _, _, true, rfl, .ty _, .base (.int i), kit_ty (by decide +kernel), h⟩
theorem isi_ib (h : Q (.bl false) H) : rIsi K [.int i, .ty "bool"] H Q := ⟨_, _, _, _, false, rfl, .ty _, .base (.int i), kit_ty (by decide +kernel), h⟩
theorem isi_ss (h : Q (.bl true) H) : rIsi K [.str z, .ty "str"] H Q := ⟨_, _, _, _, true, rfl, .ty _, .base (.str z), kit_ty (by decide +kernel), h⟩
theorem isi_tt (e : H a = some (.tup xs)) (h : Q (.bl true) H) : rIsi K [.ref a, .ty "tuple"] H Q := ⟨_, _, _, _, true, rfl, .ty _, .base (.tup e), kit_ty (by decide +kernel), h⟩
theorem isi_ll (e : H a = some (.lst xs)) (h : Q (.bl true) H) : rIsi K [.ref a, .ty "list"] H Q := ⟨_, _, _, _, true, rfl, .ty _, .base (.lst e), kit_ty (by decide +kernel), h⟩
theorem isi_dd (e : H a = some (.dK kvs)) (h : Q (.bl true) H) : rIsi K [.ref a, .ty "dict"] H Q := ⟨_, _, _, _, true, rfl, .ty _, .base (.dK e), kit_ty (by decide +kernel), h⟩
end
/-! ### heaps that grow -/
section
variable {H H1 H2 : Hp} {p : Addr} {o : HO}
theorem _root_.L2.Same.new (h : H p = none) : Same H (upd H p o) := fun a u e => by
  rw [upd_ne (ne_of_none e h)]
  exact e
/-- what H does not know may change -/
theorem _root_.L2.Same.mut (s : Same H H1) (h : H p = none) : Same H (upd H1 p o) := fun a u e => by
  rw [upd_ne (ne_of_none e h)]
  exact s a u e
theorem _root_.L2.Same.seqT {K : PySem.W.Frag} {a : Addr} {xs : List V} (e : Same H H1) (h : SqT K H a xs) : SqT K H1 a xs := by
  rcases h with (h | ⟨o, h⟩) | h
  · exact .inl (.inl (e _ _ h))
  · exact .inl (.inr ⟨o, e _ _ h⟩)
  · exact .inr h
theorem _root_.L2.Same.rd {a : Addr} {u : HO} (e : Same H H1) (h : Rd H a u) : Rd H1 a u := by
  rcases h with h | ⟨o, h⟩
  · exact .inl (e _ _ h)
  · exact .inr ⟨o, e _ _ h⟩
/-- numbers of nodes, edges, as values -/
def vN (k : Nat) : V := .int (k : Int)
def vI (k : Int) : V := .int k
def vS (x : Str) : V := .str x
def vB (b : Bool) : V := .bl b
def vR (a : Addr) : V := .ref a
end
theorem size_big : (100000 : Nat) ≤ sizeLine := by decide
theorem small_le {n : Nat} (h : n ≤ 100000) : n ≤ sizeLine := Nat.le_trans h size_big
theorem small_lt {n : Nat} (h : n < 100000) : n < sizeLine := Nat.lt_of_lt_of_le h size_big
/-- the i-th item of a list made by a map -/
theorem get_map {α β : Type} {f : α → β} {xs : List α} {i : Nat} {y : β} (h : (xs.map f)[i]? = some y) : ∃ x, xs[i]? = some x ∧ y = f x := by
  rw [List.getElem?_map] at h
  cases e : xs[i]? with
  | none => rw [e] at h; cases h
  | some x => rw [e] at h; exact ⟨x, rfl, (Option.some.inj h).symm⟩
theorem lt_get {α : Type} {xs : List α} {i : Nat} {x : α} (h : xs[i]? = some x) : i < xs.length := (List.getElem?_eq_some_iff.mp h).1
theorem take_succ_get {α : Type} {xs : List α} {i : Nat} {x : α} (h : xs[i]? = some x) : xs.take (i + 1) = xs.take i ++ [x] := by
  rw [List.take_add_one, h]; rfl
end HW
namespace HW
open PySem PySem.Spec PyProof.Rows L2 He
/-! ### rules whose reading names K, told of a K that is written (for a comprehension's block) -/
section
variable {X : Cx} {K : PySem.W.Frag} {e tg iter : Expr} {f : Str} {pos : Pos} {ta tl : TE}
theorem pe_fld_k (hK : X.K = K) (he : PE X e ta) (hb : attributeBase e f X.env (eval e X.env) = eval e X.env) : PE X (.Attribute e f pos) (tFld K ta f) := hK ▸ pe_fld he hb
theorem ix_list_k (hK : X.K = K) : IxR X (rIxL K) := hK ▸ ix_list
theorem ix_tup_k (hK : X.K = K) : IxR X (rIxT K) := hK ▸ ix_tup
theorem sl_list_k (hK : X.K = K) : SlR X (rSlL K) := hK ▸ sl_list
theorem cr_min_k (hK : X.K = K) (hc : X.calm = true) : CallR X (.builtin "min") (rMin K) := hK ▸ cr_min hc
theorem pi_list_k (hK : X.K = K) (h : PE X iter tl) : PI X tg iter (iList K tl) := hK ▸ pi_list h
theorem pg_tup_k {es : List Expr} {k n : Nat} {t : TGs} (hK : X.K = K) (hc : X.calm = true) (h : PGs X es t) (hn : (assignEach es X.env).length = n := by rfl) (hst : (assignEach es X.env).findIdx? (·.1) = none := by rfl) : PG X (.Tuple es k pos) (gTup K n t) := hK ▸ pg_tup hc h hn hst
end
end HW

set_option Elab.async false
set_option linter.all false
set_option maxRecDepth 100000
set_option maxHeartbeats 4000000
set_option pp.maxSteps 400
set_option pp.fieldNotation false
namespace HW
open PySem PySem.Spec PyProof.Rows L2 He
open C8 (Cal Met Mak pe_c pe_mk pe_mt pe_mt0 pe_gc InsC call_isC)
def NameOk (z : Str) : Prop := 1 ≤ z.length ∧ z.length ≤ 8 ∧ ∀ c ∈ z.cps.toList, 97 ≤ c ∧ c ≤ 122
def spTrueI (R : Int → Prop) : Sp := fun vs H Q _ => ∃ i : Int, vs = [.int i] ∧ R i ∧ Q (.bl true) H
abbrev maxPrice : Int := 1000000000000000000000000000000
abbrev spIsInt : Sp := spTrueI fun _ => True
abbrev spIsPrice : Sp := spTrueI fun i => 1 ≤ i ∧ i ≤ maxPrice
abbrev spIsValue : Sp := spTrueI fun i => 0 ≤ i ∧ i ≤ 2
def spIsName : Sp := fun vs H Q _ => ∃ z : Str, vs = [.str z] ∧ NameOk z ∧ ∀ H', Same H H' → Q (.bl true) H'
def Str.lt (a b : Str) : Bool := decide (a.cps.toList < b.cps.toList)
def pairS (a b : Str) : List Str := if Str.lt a b = true then [a, b] else [b, a]
def spPairOf : Sp := fun vs H Q _ => ∃ a b : Str, vs = [.str a, .str b] ∧ ∀ p, H p = none → Q (.ref p) (upd H p (.tup ((pairS a b).map V.str)))
theorem letters_mem : ∀ c : Nat, 97 ≤ c → c ≤ 122 → c ∈ (("abcdefghijklmnopqrstuvwxyz" : Str).cps.toList) := by
  intro c h1 h2
  have h : ∀ k : Fin 26, (97 + k.val) ∈ (("abcdefghijklmnopqrstuvwxyz" : Str).cps.toList) := by decide +kernel
  have := h ⟨c - 97, by omega⟩
  rw [show 97 + (c - 97) = c by omega] at this
  exact this

theorem sc_is_integer : FnScope ["value"] ["value"] (defScope s_is_integer) := ⟨rfl, rfl, rfl, by decide +kernel, rfl, by decide +kernel, by decide +kernel⟩

theorem ok_is_integer {P : Program} {w : World} {K : PySem.W.Frag} {mg : Str → Option Value} {base : Heap} (T : Txt K mg)  : Cal P w K mg base 1 "is_integer" (spIsInt) [] := by
  refine cal_of (D := d_is_integer) (T.says.def_ 7 rfl) T.g_is_integer (fun _ _ _ _ _ _ us hl => match us, hl with | [_], _ => rfl) sc_is_integer (fun vs H Q E h => ?_) (fun cdv A outer s H vs Q E hr h => ?_)
  · obtain ⟨i, rfl, _⟩ := h
    rfl
  have hu := hu_of hr
  refine ⟨_, (pss_one (ps_ret (pe_and (pe_callB call_isi (by rfl) T.f_isinstance (by decide +kernel) (pa_cons (pv 0) (pa_cons (pe_ty (n := "int") (by rfl) T.f_int (by decide +kernel)) pa_nil))) (pe_one (pe_not (pe_callB call_isi (by rfl) T.f_isinstance (by decide +kernel) (pa_cons (pv 0) (pa_cons (pe_ty (n := "bool") (by rfl) T.f_bool (by decide +kernel)) pa_nil)))))))), ?_⟩
  obtain ⟨i, rfl, _, k⟩ := h
  refine ⟨_, rfl, _, _, _, _, true, rfl, .ty _, .base (.int _), kit_ty (by decide +kernel), ?_⟩
  refine ⟨_, rfl, iteT ⟨_, rfl, _, _, _, _, false, rfl, .ty _, .base (.int _), kit_ty (by decide +kernel), ?_⟩⟩
  exact ⟨_, rfl, k⟩
theorem sc_is_price : FnScope ["value"] ["value"] (defScope s_is_price) := ⟨rfl, rfl, rfl, by decide +kernel, rfl, by decide +kernel, by decide +kernel⟩

theorem ok_is_price {P : Program} {w : World} {K : PySem.W.Frag} {mg : Str → Option Value} {base : Heap} (T : Txt K mg) (F_is_integer : Cal P w K mg base 1 "is_integer" spIsInt []) : Cal P w K mg base 2 "is_price" (spIsPrice) [] := by
  refine cal_of (D := d_is_price) (T.says.def_ 8 rfl) T.g_is_price (fun _ _ _ _ _ _ us hl => match us, hl with | [_], _ => rfl) sc_is_price (fun vs H Q E h => ?_) (fun cdv A outer s H vs Q E hr h => ?_)
  · obtain ⟨i, rfl, _⟩ := h
    rfl
  have hu := hu_of hr
  refine ⟨_, (pss_one (ps_ret (pe_and (pe_c F_is_integer hr (by decide) rfl (pa_cons (pv 0) pa_nil)) (pe_one (pe_chain op_le op_le pe_int (pv 0) (pe_gc rfl T.k_MOST_PRICE)))))), ?_⟩
  obtain ⟨i, rfl, ⟨h1, h2⟩, k⟩ := h
  refine ⟨_, rfl, _, rfl, True.intro, _, rfl, iteT ⟨_, rfl, _, _, rfl, rfl, _, rfl, ?_⟩⟩
  rw [decide_eq_true h1]
  refine iteT ⟨_, _, rfl, rfl, ?_⟩
  show Q (.bl (decide (i ≤ maxPrice))) H
  rw [decide_eq_true h2]
  exact k
theorem sc_is_value : FnScope ["value"] ["value"] (defScope s_is_value) := ⟨rfl, rfl, rfl, by decide +kernel, rfl, by decide +kernel, by decide +kernel⟩

theorem ok_is_value {P : Program} {w : World} {K : PySem.W.Frag} {mg : Str → Option Value} {base : Heap} (T : Txt K mg) (F_is_integer : Cal P w K mg base 1 "is_integer" spIsInt []) : Cal P w K mg base 2 "is_value" (spIsValue) [] := by
  refine cal_of (D := d_is_value) (T.says.def_ 25 rfl) T.g_is_value (fun _ _ _ _ _ _ us hl => match us, hl with | [_], _ => rfl) sc_is_value (fun vs H Q E h => ?_) (fun cdv A outer s H vs Q E hr h => ?_)
  · obtain ⟨i, rfl, _⟩ := h
    rfl
  have hu := hu_of hr
  refine ⟨_, (pss_one (ps_ret (pe_and (pe_c F_is_integer hr (by decide) rfl (pa_cons (pv 0) pa_nil)) (pe_one (pe_chain op_le op_le pe_int (pv 0) pe_int))))), ?_⟩
  obtain ⟨i, rfl, ⟨h1, h2⟩, k⟩ := h
  refine ⟨_, rfl, _, rfl, True.intro, _, rfl, iteT ⟨_, rfl, _, _, rfl, rfl, _, rfl, ?_⟩⟩
  rw [decide_eq_true h1]
  refine iteT ⟨_, _, rfl, rfl, ?_⟩
  show Q (.bl (decide (i ≤ 2))) H
  rw [decide_eq_true h2]
  exact k
theorem sc_lisint : FnScope ["_law_value"] ["_law_value"] (defScope s_lisint) := ⟨rfl, rfl, rfl, by decide +kernel, rfl, by decide +kernel, by decide +kernel⟩

theorem ok_lisint {P : Program} {w : World} {K : PySem.W.Frag} {mg : Str → Option Value} {base : Heap} (T : Txt K mg)  : Cal P w K mg base 1 "_law_is_integer" (spIsInt) [] := by
  refine cal_of (D := d_lisint) (T.says.def_ 39 rfl) T.g__law_is_integer (fun _ _ _ _ _ _ us hl => match us, hl with | [_], _ => rfl) sc_lisint (fun vs H Q E h => ?_) (fun cdv A outer s H vs Q E hr h => ?_)
  · obtain ⟨i, rfl, _⟩ := h
    rfl
  have hu := hu_of hr
  refine ⟨_, (pss_one (ps_ret (pe_and (pe_callB call_isi (by rfl) T.f_isinstance (by decide +kernel) (pa_cons (pv 0) (pa_cons (pe_ty (n := "int") (by rfl) T.f_int (by decide +kernel)) pa_nil))) (pe_one (pe_not (pe_callB call_isi (by rfl) T.f_isinstance (by decide +kernel) (pa_cons (pv 0) (pa_cons (pe_ty (n := "bool") (by rfl) T.f_bool (by decide +kernel)) pa_nil)))))))), ?_⟩
  obtain ⟨i, rfl, _, k⟩ := h
  refine ⟨_, rfl, _, _, _, _, true, rfl, .ty _, .base (.int _), kit_ty (by decide +kernel), ?_⟩
  refine ⟨_, rfl, iteT ⟨_, rfl, _, _, _, _, false, rfl, .ty _, .base (.int _), kit_ty (by decide +kernel), ?_⟩⟩
  exact ⟨_, rfl, k⟩
theorem sc_pair_of : FnScope ["a", "b"] ["a", "b"] (defScope s_pair_of) := ⟨rfl, rfl, rfl, by decide +kernel, rfl, by decide +kernel, by decide +kernel⟩

theorem ok_pair_of {P : Program} {w : World} {K : PySem.W.Frag} {mg : Str → Option Value} {base : Heap} (T : Txt K mg)  : Cal P w K mg base 1 "pair_of" (spPairOf) [] := by
  refine cal_of (D := d_pair_of) (T.says.def_ 9 rfl) T.g_pair_of (fun _ _ _ _ _ _ us hl => match us, hl with | [_, _], _ => rfl) sc_pair_of (fun vs H Q E h => ?_) (fun cdv A outer s H vs Q E hr h => ?_)
  · obtain ⟨a, b, rfl, _⟩ := h
    rfl
  have hu := hu_of hr
  refine ⟨_, (pss_cons (ps_if (pt_cmpR op_lt_str (pv 0) (pv 1) (nomark _)) (pss_one (ps_ret (pe_tup (pa_cons (pv 0) (pa_cons (pv 1) pa_nil))))) pss_nil)
    (pss_one (ps_ret (pe_tup (pa_cons (pv 1) (pa_cons (pv 0) pa_nil)))))), ?_⟩
  obtain ⟨a, b, rfl, k⟩ := h
  refine ⟨_, rfl, _, rfl, _, _, rfl, rfl, _, rfl, ?_⟩
  unfold pairS Str.lt at k
  refine ite2 (fun c => ?_) (fun c => ?_)
  · refine ⟨_, rfl, _, rfl, by show 2 ≤ sizeLine; decide, fun p hp => ?_⟩
    have := k p hp
    rw [if_pos c] at this
    exact this
  · refine ⟨_, rfl, _, rfl, by show 2 ≤ sizeLine; decide, fun p hp => ?_⟩
    have := k p hp
    rw [if_neg c] at this
    exact this
theorem sc_is_name : FnScope ["value", "char"] ["value"] (defScope s_is_name) := ⟨rfl, rfl, rfl, by decide +kernel, rfl, by decide +kernel, by decide +kernel⟩

theorem ok_is_name {P : Program} {w : World} {K : PySem.W.Frag} {mg : Str → Option Value} {base : Heap} (T : Txt K mg)  : Cal P w K mg base 1 "is_name" (spIsName) [] := by
  refine cal_of (D := d_is_name) (T.says.def_ 6 rfl) T.g_is_name (fun _ _ _ _ _ _ us hl => match us, hl with | [_], _ => rfl) sc_is_name (fun vs H Q E h => ?_) (fun cdv A outer s H vs Q E hr h => ?_)
  · obtain ⟨z, rfl, _⟩ := h
    rfl
  have hu := hu_of hr
  refine ⟨_, (pss_cons (ps_if (PW.pt (pw_or (pt_not (pt_val (pe_callB call_isi (by rfl) T.f_isinstance (by decide +kernel) (pa_cons (pv 0) (pa_cons (pe_ty (n := "str") (by rfl) T.f_str (by decide +kernel)) pa_nil))))) (pw_or (pt_cmpR op_lt (pe_callB call_len_str (by rfl) T.f_len (by decide +kernel) (pa_cons (pv 0) pa_nil)) pe_int (nomark _)) (pw_or1 (pt_cmpR op_gt (pe_callB call_len_str (by rfl) T.f_len (by decide +kernel) (pa_cons (pv 0) pa_nil)) pe_int (nomark _)))))) (pss_one (ps_ret pe_bl)) pss_nil)
    (pss_one (ps_ret (pe_callB (cr_all rfl) (by rfl) T.f_all (by decide +kernel) (pa_cons (pe_lc rfl sc_is_name.nd (pi_str (pv 0)) (blkOk_by (N := ["value", "char"]) (sc := defScope s_is_name) (own := [("char", 1)]) (by decide +kernel)) (fun _ _ _ _ _ => (pg_name (i := 1) sc_is_name.nd rfl (Or.inl rfl))) (fun _ _ _ _ _ => pts_nil) (fun _ _ _ _ _ => (pe_cmpR op_in_sign (pv 1) (pe_gc rfl T.k_LETTERS) rfl))) pa_nil))))), ?_⟩
  obtain ⟨z, rfl, ⟨h1, h2, h3⟩, k⟩ := h
  have h8 : z.length ≤ sizeLine := small_le (by omega)
  refine ⟨_, rfl, _, _, _, _, true, rfl, .ty _, .base (.str _), kit_ty (by decide +kernel), ?_⟩
  refine ⟨_, rfl, iteF ?_⟩
  refine ⟨_, rfl, _, rfl, h8, ?_⟩
  refine ⟨_, _, rfl, rfl, _, rfl, ?_⟩
  rw [decide_eq_false (show ¬ ((z.length : Int) < 1) by omega)]
  refine iteF ⟨_, rfl, _, rfl, h8, _, _, rfl, rfl, _, rfl, ?_⟩
  rw [decide_eq_false (show ¬ ((8 : Int) < (z.length : Int)) by omega)]
  refine iteF ⟨_, rfl, _, rfl, fun D hD => ?_⟩
  have hz : z.cps.size = z.length := rfl
  refine lc_it (walk_str (z := z)) (fun i H' => H' = upd H D (.lst ((List.replicate i true).map V.bl))) rfl (fun _ _ _ _ => True.intro) ?_ ?_
  · rintro i x H1 H2 hi rfl ⟨rfl, c, hc, rfl⟩
    have hm := h3 c (by rw [Array.mem_toList_iff]; exact Array.mem_of_getElem? hc)
    refine ⟨rfl, _, rfl, c, _, rfl, rfl, ?_⟩
    rw [decide_eq_true (letters_mem c hm.1 hm.2)]
    refine ⟨_, upd_same, by rw [List.length_map, List.length_replicate]; exact small_lt (by omega), ?_⟩
    rw [upd_upd, List.replicate_succ', List.map_append]
    rfl
  · rintro H1 rfl
    refine ⟨D, List.replicate z.cps.size true, rfl, SqL.of upd_same, ?_⟩
    have e : (List.replicate z.cps.size true).all id = true := by simp
    rw [e]
    exact k _ (Same.new hD)
end HW

set_option Elab.async false
set_option linter.all false
set_option maxRecDepth 100000
set_option maxHeartbeats 4000000
set_option pp.maxSteps 400
set_option pp.fieldNotation false
namespace HW
open PySem PySem.Spec PyProof.Rows L2 He
open C8 (Cal Met Mak pe_c pe_mk pe_mt pe_mt0 pe_gc InsC call_isC)
open HP
/-! ### a network in the heap -/
def netF (n : Nat) (hl rl el : Addr) (tl : List (Str × V)) : List (Str × V) :=
  ("many", .int (n : Int)) :: ("source", .int (2 * (n : Int))) :: ("sink", .int (2 * (n : Int) + 1)) :: ("heads", .ref hl) :: ("rooms", .ref rl) :: ("edges_out", .ref el) :: tl
section
variable {n : Nat} {hl rl el : Addr} {tl : List (Str × V)}
theorem nf_many : (netF n hl rl el tl).lookup ("many" : Str) = some (.int (n : Int)) := by rfl
theorem nf_source : (netF n hl rl el tl).lookup ("source" : Str) = some (.int (2 * (n : Int))) := by rfl
theorem nf_sink : (netF n hl rl el tl).lookup ("sink" : Str) = some (.int (2 * (n : Int) + 1)) := by rfl
theorem nf_heads : (netF n hl rl el tl).lookup ("heads" : Str) = some (.ref hl) := by rfl
theorem nf_rooms : (netF n hl rl el tl).lookup ("rooms" : Str) = some (.ref rl) := by rfl
theorem nf_edges : (netF n hl rl el tl).lookup ("edges_out" : Str) = some (.ref el) := by rfl
end
structure NetG (C : Addr) (H : Hp) (p dx hl rl el : Addr) (ls : Nat → Addr) (n : Nat) (hs rs : List V) (os : Nat → List V) (tl : List (Str × V)) : Prop where
  ins : H p = some (.ins C dx (netF n hl rl el tl))
  hd : H hl = some (.lst hs)
  rm : H rl = some (.lst rs)
  ed : H el = some (.lst (lmap (2 * n + 2) fun v => V.ref (ls v)))
  out : ∀ v, v < 2 * n + 2 → H (ls v) = some (.lst (os v))
structure NetD (H0 : Hp) (p hl rl el : Addr) (ls : Nat → Addr) (n : Nat) : Prop where
  p0 : H0 p = none
  h0 : H0 hl = none
  r0 : H0 rl = none
  e0 : H0 el = none
  l0 : ∀ v, v < 2 * n + 2 → H0 (ls v) = none
  inj : ∀ u v, u < 2 * n + 2 → v < 2 * n + 2 → ls u = ls v → u = v
  hr : hl ≠ rl
  he : hl ≠ el
  re : rl ≠ el
  lh : ∀ v, v < 2 * n + 2 → ls v ≠ hl
  lr : ∀ v, v < 2 * n + 2 → ls v ≠ rl
  le : ∀ v, v < 2 * n + 2 → ls v ≠ el
section
variable {C : Addr} {H0 H H' : Hp} {p dx hl rl el : Addr} {ls : Nat → Addr} {n : Nat} {hs rs zs : List V} {os : Nat → List V} {tl : List (Str × V)}
theorem NetG.pne (G : NetG C H p dx hl rl el ls n hs rs os tl) {a : Addr} {xs : List V} (h : H a = some (.lst xs)) : p ≠ a := ne_of G.ins h (by intro q; cases q)
theorem NetG.same (G : NetG C H p dx hl rl el ls n hs rs os tl) (s : Same H H') : NetG C H' p dx hl rl el ls n hs rs os tl :=
  ⟨s _ _ G.ins, s _ _ G.hd, s _ _ G.rm, s _ _ G.ed, fun v hv => s _ _ (G.out v hv)⟩
theorem NetG.out_upd (G : NetG C H p dx hl rl el ls n hs rs os tl) (D : NetD H0 p hl rl el ls n) {t : Nat} (ht : t < 2 * n + 2) : NetG C (upd H (ls t) (.lst zs)) p dx hl rl el ls n hs rs (fun v => if v = t then zs else os v) tl := by
  refine ⟨?_, ?_, ?_, ?_, fun v hv => ?_⟩
  · rw [upd_ne (G.pne (G.out t ht))]; exact G.ins
  · rw [upd_ne (Ne.symm (D.lh t ht))]; exact G.hd
  · rw [upd_ne (Ne.symm (D.lr t ht))]; exact G.rm
  · rw [upd_ne (Ne.symm (D.le t ht))]; exact G.ed
  · by_cases e : v = t
    · rw [if_pos e, e]; exact upd_same
    · rw [if_neg e, upd_ne (fun q => e (D.inj v t hv ht q))]; exact G.out v hv
theorem NetG.hd_upd (G : NetG C H p dx hl rl el ls n hs rs os tl) (D : NetD H0 p hl rl el ls n) : NetG C (upd H hl (.lst zs)) p dx hl rl el ls n zs rs os tl := by
  refine ⟨?_, upd_same, ?_, ?_, fun v hv => ?_⟩
  · rw [upd_ne (G.pne G.hd)]; exact G.ins
  · rw [upd_ne (Ne.symm D.hr)]; exact G.rm
  · rw [upd_ne (Ne.symm D.he)]; exact G.ed
  · rw [upd_ne (D.lh v hv)]; exact G.out v hv
theorem NetG.rm_upd (G : NetG C H p dx hl rl el ls n hs rs os tl) (D : NetD H0 p hl rl el ls n) : NetG C (upd H rl (.lst zs)) p dx hl rl el ls n hs zs os tl := by
  refine ⟨?_, ?_, upd_same, ?_, fun v hv => ?_⟩
  · rw [upd_ne (G.pne G.rm)]; exact G.ins
  · rw [upd_ne D.hr]; exact G.hd
  · rw [upd_ne (Ne.symm D.re)]; exact G.ed
  · rw [upd_ne (D.lr v hv)]; exact G.out v hv
end
def hsOf (E : List Edge) : List V := lmap (2 * E.length) fun e => vN (headOf E e)
def rsOf (E : List Edge) (r : Nat → Int) : List V := lmap (2 * E.length) fun e => V.int (r e)
def osOf (E : List Edge) (v : Nat) : List V := (outs E v).map vN
/-- behind H0 a network stands at p: its edges E, their rooms r -/
def NetSt (C : Addr) (H0 H : Hp) (p : Addr) (n : Nat) (E : List Edge) (r : Nat → Int) (tl : List (Str × V)) : Prop :=
  Same H0 H ∧ ∃ dx hl rl el ls, NetG C H p dx hl rl el ls n (hsOf E) (rsOf E r) (osOf E) tl ∧ NetD H0 p hl rl el ls n
theorem NetSt.grow {C : Addr} {H0 H H' : Hp} {p : Addr} {n : Nat} {E : List Edge} {r : Nat → Int} {tl : List (Str × V)} (N : NetSt C H0 H p n E r tl) (s : Same H H') : NetSt C H0 H' p n E r tl := by
  obtain ⟨s0, dx, hl, rl, el, ls, G, D⟩ := N
  exact ⟨s0.trans s, dx, hl, rl, el, ls, G.same s, D⟩
theorem atI_lmap {α : Type} {N : Nat} {f : Nat → α} {t : Nat} (h : t < N) : atI (lmap N f) (t : Int) = some (f t) := atI_nat (lmap_get h)
def spJoin (C : Addr) : Sp := fun vs H Q _ => ∃ (H0 : Hp) (p : Addr) (n : Nat) (E : List Edge) (tl : List (Str × V)) (ti hi c : Int) (t h : Nat), vs = [.ref p, .int ti, .int hi, .int c] ∧ NetSt C H0 H p n E (roomOf E) tl ∧ ti = (t : Int) ∧ hi = (h : Int) ∧
  t < 2 * n + 2 ∧ h < 2 * n + 2 ∧ E.length ≤ 3000 ∧ ∀ H', NetSt C H0 H' p n (E ++ [⟨t, h, c⟩]) (roomOf (E ++ [⟨t, h, c⟩])) tl → Q .non H'
theorem hs_snoc {E : List Edge} {x : Edge} : hsOf (E ++ [x]) = (hsOf E ++ [vN x.hd]) ++ [vN x.tl] := by
  unfold hsOf
  rw [show 2 * (E ++ [x]).length = 2 * E.length + 1 + 1 by simp; omega, lmap_snoc, lmap_snoc, headOf_new0, headOf_new1]
  congr 2
  exact lmap_congr fun e he => by rw [headOf_old he]
theorem rs_snoc {E : List Edge} {x : Edge} : rsOf (E ++ [x]) (roomOf (E ++ [x])) = (rsOf E (roomOf E) ++ [V.int x.cp]) ++ [V.int 0] := by
  unfold rsOf
  rw [show 2 * (E ++ [x]).length = 2 * E.length + 1 + 1 by simp; omega, lmap_snoc, lmap_snoc, roomOf_new0, roomOf_new1]
  congr 2
  exact lmap_congr fun e he => by rw [roomOf_old he]
theorem os_snoc {E : List Edge} {x : Edge} {v : Nat} : osOf (E ++ [x]) v = (osOf E v ++ (if x.tl = v then [vN (2 * E.length)] else [])) ++ (if x.hd = v then [vN (2 * E.length + 1)] else []) := by
  unfold osOf
  rw [outs_snoc, List.map_append, List.map_append]
  by_cases h1 : x.tl = v <;> by_cases h2 : x.hd = v <;> simp [h1, h2]
theorem osOf_length {E : List Edge} {v : Nat} : (osOf E v).length ≤ 2 * E.length := by unfold osOf; rw [List.length_map]; exact outs_length
theorem hsOf_length {E : List Edge} : (hsOf E).length = 2 * E.length := lmap_length
theorem rsOf_length {E : List Edge} {r : Nat → Int} : (rsOf E r).length = 2 * E.length := lmap_length

theorem sc_Net_join_nodes : FnScope ["self", "tail", "head", "room"] ["self", "tail", "head", "room"] (defScope s_Net_join_nodes) := ⟨rfl, rfl, rfl, by decide +kernel, rfl, by decide +kernel, by decide +kernel⟩

theorem ok_Net_join_nodes {P : Program} {w : World} {K : PySem.W.Frag} {mg : Str → Option Value} {base : Heap} (T : Txt K mg)  : Met P w K mg base 1 (ga K "Net") "join_nodes" (spJoin (ga K "Net")) [] := by
  refine met_of (D := d_Net_join_nodes) (T.says.def_ 1 rfl) T.c_Net T.m_Net_join_nodes (fun _ _ _ _ _ _ us hl => match us, hl with | [_, _, _, _], _ => rfl) sc_Net_join_nodes (fun vs H Q E h => ?_) (fun cdv A outer s H vs Q E hr h => ?_)
  · obtain ⟨_, p, _, _, _, ti, hi, c, _, _, rfl, _⟩ := h
    rfl
  have hu := hu_of hr
  refine ⟨_, (pss_cons (ps_expr (pe_bm PySem.F.plainAttrs_list PySem.F.slot_list_append PySem.F.type_list_append mt_append (pe_ix ix_list (pe_fld (pv 0) rfl) (pv 1) (fun _ _ => rfl)) (pa_cons (pe_callB call_len_seq (by rfl) T.f_len (by decide +kernel) (pa_cons (pe_fld (pv 0) rfl) pa_nil)) pa_nil)))
    (pss_cons (ps_expr (pe_bm PySem.F.plainAttrs_list PySem.F.slot_list_append PySem.F.type_list_append mt_append (pe_fld (pv 0) rfl) (pa_cons (pv 2) pa_nil)))
    (pss_cons (ps_expr (pe_bm PySem.F.plainAttrs_list PySem.F.slot_list_append PySem.F.type_list_append mt_append (pe_fld (pv 0) rfl) (pa_cons (pv 3) pa_nil)))
    (pss_cons (ps_expr (pe_bm PySem.F.plainAttrs_list PySem.F.slot_list_append PySem.F.type_list_append mt_append (pe_ix ix_list (pe_fld (pv 0) rfl) (pv 2) (fun _ _ => rfl)) (pa_cons (pe_callB call_len_seq (by rfl) T.f_len (by decide +kernel) (pa_cons (pe_fld (pv 0) rfl) pa_nil)) pa_nil)))
    (pss_cons (ps_expr (pe_bm PySem.F.plainAttrs_list PySem.F.slot_list_append PySem.F.type_list_append mt_append (pe_fld (pv 0) rfl) (pa_cons (pv 1) pa_nil)))
    (pss_one (ps_expr (pe_bm PySem.F.plainAttrs_list PySem.F.slot_list_append PySem.F.type_list_append mt_append (pe_fld (pv 0) rfl) (pa_cons pe_int pa_nil))))))))), ?_⟩
  obtain ⟨H0, p, n, E, tl, _, _, c, t, h', rfl, ⟨s0, dx, hl, rl, el, ls, G, D⟩, rfl, rfl, ht, hh, hE, k⟩ := h
  -- self.edges_out[tail].append(len(self.heads))
  refine ⟨_, rfl, _, _, _, _, _, rfl, G.ins, T.c_Net, T.n_Net_edges_out, nf_edges, _, rfl, _, _, _, _, rfl, rfl, SqL.of G.ed, atI_lmap ht, ?_⟩
  refine ⟨.inl ⟨rfl, _, SqL.of (G.out t ht)⟩, _, rfl, _, _, _, _, _, rfl, G.ins, T.c_Net, T.n_Net_heads, nf_heads, _, _, rfl, .inl (SqL.of G.hd), ?_⟩
  refine ⟨_, _, _, rfl, rfl, G.out t ht, small_lt (Nat.lt_of_le_of_lt osOf_length (by omega)), ?_⟩
  have G1 := G.out_upd (zs := osOf E t ++ [V.int ((hsOf E).length : Nat)]) D ht
  have s1 : Same H0 (upd H (ls t) (.lst (osOf E t ++ [V.int ((hsOf E).length : Nat)]))) := s0.mut (D.l0 t ht)
  generalize upd H (ls t) (.lst (osOf E t ++ [V.int ((hsOf E).length : Nat)])) = H1 at G1 s1 ⊢
  -- self.heads.append(head)
  refine ⟨_, rfl, _, _, _, _, _, rfl, G1.ins, T.c_Net, T.n_Net_heads, nf_heads, .inl ⟨rfl, _, SqL.of G1.hd⟩, _, rfl, ?_⟩
  refine ⟨_, _, _, rfl, rfl, G1.hd, small_lt (by rw [hsOf_length]; omega), ?_⟩
  have G2 := G1.hd_upd (zs := hsOf E ++ [V.int (h' : Int)]) D
  have s2 : Same H0 (upd H1 hl (.lst (hsOf E ++ [V.int (h' : Int)]))) := s1.mut D.h0
  generalize upd H1 hl (.lst (hsOf E ++ [V.int (h' : Int)])) = H2 at G2 s2 ⊢
  -- self.rooms.append(room)
  refine ⟨_, rfl, _, _, _, _, _, rfl, G2.ins, T.c_Net, T.n_Net_rooms, nf_rooms, .inl ⟨rfl, _, SqL.of G2.rm⟩, _, rfl, ?_⟩
  refine ⟨_, _, _, rfl, rfl, G2.rm, small_lt (by rw [rsOf_length]; omega), ?_⟩
  have G3 := G2.rm_upd (zs := rsOf E (roomOf E) ++ [V.int c]) D
  have s3 : Same H0 (upd H2 rl (.lst (rsOf E (roomOf E) ++ [V.int c]))) := s2.mut D.r0
  generalize upd H2 rl (.lst (rsOf E (roomOf E) ++ [V.int c])) = H3 at G3 s3 ⊢
  -- self.edges_out[head].append(len(self.heads))
  refine ⟨_, rfl, _, _, _, _, _, rfl, G3.ins, T.c_Net, T.n_Net_edges_out, nf_edges, _, rfl, _, _, _, _, rfl, rfl, SqL.of G3.ed, atI_lmap hh, ?_⟩
  refine ⟨.inl ⟨rfl, _, SqL.of (G3.out h' hh)⟩, _, rfl, _, _, _, _, _, rfl, G3.ins, T.c_Net, T.n_Net_heads, nf_heads, _, _, rfl, .inl (SqL.of G3.hd), ?_⟩
  refine ⟨_, _, _, rfl, rfl, G3.out h' hh, small_lt (by
    have := osOf_length (E := E) (v := h')
    split
    · rename_i q
      rw [q] at this
      rw [List.length_append, List.length_singleton]; omega
    · omega), ?_⟩
  have G4 := G3.out_upd (zs := (if h' = t then osOf E t ++ [V.int ((hsOf E).length : Nat)] else osOf E h') ++ [V.int ((hsOf E ++ [V.int (h' : Int)]).length : Nat)]) D hh
  have s4 : Same H0 (upd H3 (ls h') (.lst ((if h' = t then osOf E t ++ [V.int ((hsOf E).length : Nat)] else osOf E h') ++ [V.int ((hsOf E ++ [V.int (h' : Int)]).length : Nat)]))) := s3.mut (D.l0 h' hh)
  generalize upd H3 (ls h') (.lst ((if h' = t then osOf E t ++ [V.int ((hsOf E).length : Nat)] else osOf E h') ++ [V.int ((hsOf E ++ [V.int (h' : Int)]).length : Nat)])) = H4 at G4 s4 ⊢
  -- self.heads.append(tail)
  refine ⟨_, rfl, _, _, _, _, _, rfl, G4.ins, T.c_Net, T.n_Net_heads, nf_heads, .inl ⟨rfl, _, SqL.of G4.hd⟩, _, rfl, ?_⟩
  refine ⟨_, _, _, rfl, rfl, G4.hd, small_lt (by rw [List.length_append, hsOf_length, List.length_singleton]; omega), ?_⟩
  have G5 := G4.hd_upd (zs := (hsOf E ++ [V.int (h' : Int)]) ++ [V.int (t : Int)]) D
  have s5 : Same H0 (upd H4 hl (.lst ((hsOf E ++ [V.int (h' : Int)]) ++ [V.int (t : Int)]))) := s4.mut D.h0
  generalize upd H4 hl (.lst ((hsOf E ++ [V.int (h' : Int)]) ++ [V.int (t : Int)])) = H5 at G5 s5 ⊢
  -- self.rooms.append(0)
  refine ⟨_, rfl, _, _, _, _, _, rfl, G5.ins, T.c_Net, T.n_Net_rooms, nf_rooms, .inl ⟨rfl, _, SqL.of G5.rm⟩, ?_⟩
  refine ⟨_, _, _, rfl, rfl, G5.rm, small_lt (by rw [List.length_append, rsOf_length, List.length_singleton]; omega), ?_⟩
  have G6 := G5.rm_upd (zs := (rsOf E (roomOf E) ++ [V.int c]) ++ [V.int 0]) D
  have s6 : Same H0 (upd H5 rl (.lst ((rsOf E (roomOf E) ++ [V.int c]) ++ [V.int 0]))) := s5.mut D.r0
  generalize upd H5 rl (.lst ((rsOf E (roomOf E) ++ [V.int c]) ++ [V.int 0])) = H6 at G6 s6 ⊢
  refine k _ ⟨s6, dx, hl, rl, el, ls, ?_, D⟩
  have e1 : (fun v => if v = h' then (if h' = t then osOf E t ++ [V.int ((hsOf E).length : Nat)] else osOf E h') ++ [V.int ((hsOf E ++ [V.int (h' : Int)]).length : Nat)] else (fun v => if v = t then osOf E t ++ [V.int ((hsOf E).length : Nat)] else osOf E v) v) = osOf (E ++ [⟨t, h', c⟩]) := by
    funext v
    rw [os_snoc, hsOf_length, List.length_append, hsOf_length, List.length_singleton]
    by_cases q1 : v = h'
    · subst q1
      by_cases q2 : v = t
      · subst q2; simp [vN]
      · have q3 : ¬ t = v := fun z => q2 z.symm
        simp [vN, q2, q3]
    · have q4 : ¬ h' = v := fun z => q1 z.symm
      by_cases q2 : v = t
      · subst q2; simp [vN, q1, q4]
      · have q3 : ¬ t = v := fun z => q2 z.symm
        simp [q1, q2, q3, q4]
  rw [← e1, hs_snoc, rs_snoc]
  exact G6
end HW

set_option Elab.async false
set_option linter.all false
set_option maxRecDepth 100000
set_option maxHeartbeats 4000000
set_option pp.maxSteps 400
set_option pp.fieldNotation false
namespace HW
open PySem PySem.Spec PyProof.Rows L2 He
open C8 (Cal Met Mak pe_c pe_mk pe_mt pe_mt0 pe_gc InsC call_isC)
open HP
theorem xor_mate (e : Nat) : Builtin.bitXor (e : Int) 1 = (mate e : Int) := by
  rw [Bits.bitXor_pp (by omega) (by omega)]
  have h0 : ((e : Int).toNat ^^^ (1 : Int).toNat) = e ^^^ 1 := by simp
  rw [h0]
  have h1 : (e ^^^ 1) / 2 = e / 2 := by
    rw [Nat.xor_div_two]; simp
  have h2 : (e ^^^ 1) % 2 = 1 ↔ ¬ (e % 2 = 1 ↔ 1 % 2 = 1) := Nat.xor_mod_two_eq_one
  have h3 : e ^^^ 1 = mate e := by
    unfold mate
    split <;> omega
  rw [h3]
theorem Net_src (n : Nat) : (2 * (n : Int)) = ((2 * n : Nat) : Int) := by omega
theorem Net_snk (n : Nat) : (2 * (n : Int) + 1) = ((2 * n + 1 : Nat) : Int) := by omega
theorem ixN_nat {N v : Nat} (h : v < N) : ixN N (v : Int) = some v := by
  unfold ixN
  rw [if_pos (by omega), if_pos (by omega)]
  simp
def spPath (C : Addr) : Sp := fun vs H Q _ => ∃ (H0 : Hp) (p : Addr) (n : Nat) (E : List Edge) (r : Nat → Int) (tl : List (Str × V)), vs = [.ref p] ∧ NetSt C H0 H p n E r tl ∧ n ≤ 1000 ∧ E.length ≤ 3000 ∧ EIn (2 * n + 2) E ∧ (∀ i, 0 ≤ r i) ∧
  ∀ H' q path, Same H H' → H q = none → H' q = some (.lst (path.map vN)) → PathOk E r (2 * n) (2 * n + 1) path → path.length ≤ 6000 → Q (.ref q) H'
/-- the search's objects: came, waiting -/
structure SpI (H : Hp) (ca wa : Addr) (n : Nat) (E : List Edge) (r : Nat → Int) (f : Nat → Int) (wt : List Nat) (H' : Hp) : Prop where
  same : Same H H'
  came : H' ca = some (.lst (lmap (2 * n + 2) fun v => V.int (f v)))
  wait : H' wa = some (.lst (wt.map vN))
  bfs : Bfs E r (2 * n + 2) (2 * n) f wt
theorem SpI.len {H : Hp} {ca wa : Addr} {n : Nat} {E : List Edge} {r : Nat → Int} {f : Nat → Int} {wt : List Nat} {H' : Hp} (I : SpI H ca wa n E r f wt H') : wt.length ≤ 2 * n + 2 := nodup_length I.bfs.nd I.bfs.lt
theorem nv_get {l : List Nat} {i : Nat} {v : Nat} (h : l[i]? = some v) : (l.map vN)[i]? = some (vN v) := by rw [List.getElem?_map, h]; rfl
theorem nodup_le {l : List Nat} {N : Nat} (h : l.Nodup) (hl : ∀ v ∈ l, v < N) : l.length ≤ N := nodup_length h hl

theorem sc_Net_shortest_path : FnScope ["self", "came", "waiting", "at", "edge", "head", "path", "node", "k"] ["self"] (defScope s_Net_shortest_path) := ⟨rfl, rfl, rfl, by decide +kernel, rfl, by decide +kernel, by decide +kernel⟩

theorem ok_Net_shortest_path {P : Program} {w : World} {K : PySem.W.Frag} {mg : Str → Option Value} {base : Heap} (T : Txt K mg)  : Met P w K mg base 1 (ga K "Net") "shortest_path" (spPath (ga K "Net")) [] := by
  refine met_of (D := d_Net_shortest_path) (T.says.def_ 2 rfl) T.c_Net T.m_Net_shortest_path (fun _ _ _ _ _ _ us hl => match us, hl with | [_], _ => rfl) sc_Net_shortest_path (fun vs H Q E h => ?_) (fun cdv A outer s H vs Q E hr h => ?_)
  · obtain ⟨_, p, _, _, _, _, rfl, _⟩ := h
    rfl
  have hu := hu_of hr
  refine ⟨_, (pss_cons (ps_setLc (i := 1) rfl sc_Net_shortest_path.nd rfl rfl (sw_true rfl rfl rfl (by decide +kernel)) (pi_range1 (by rfl) T.f_range (pa_cons (pe_op op_add (pe_fld (pv 0) rfl) pe_int) pa_nil)) (blkOk_by (N := ["self", "came", "waiting", "at", "edge", "head", "path", "node", "k"]) (sc := defScope s_Net_shortest_path) (own := [("k", 8)]) (by decide +kernel)) (fun _ _ _ _ _ => (pg_name (i := 8) sc_Net_shortest_path.nd rfl (Or.inl rfl))) (fun _ _ _ _ _ => pts_nil) (fun _ _ _ _ _ => (pe_un un_neg pe_int)))
    (pss_cons (ps_set (i := 2) sc_Net_shortest_path.nd rfl (Or.inl rfl) (pe_lst (pa_cons (pe_fld (pv 0) rfl) pa_nil)))
    (pss_cons (ps_set (i := 3) sc_Net_shortest_path.nd rfl (Or.inl rfl) pe_int)
    (C8.pss_cut (ps_while PassesOwn.never (PW.pt (pw_and (pt_cmpR op_lt (pv 3) (pe_callB call_len_seq (by rfl) T.f_len (by decide +kernel) (pa_cons (pv 2) pa_nil)) (nomark _)) (pw_and1 (pt_cmpR op_lt (pe_ix ix_list (pv 1) (pe_fld (pv 0) rfl) (fun _ _ => rfl)) pe_int (nomark _))))) (C8.pss_cut (ps_for PassesOwn.never rfl (pi_list (pe_ix ix_list (pe_fld (pv 0) rfl) (pe_ix ix_list (pv 2) (pv 3) (fun _ _ => rfl)) (fun _ _ => rfl))) (pg_name (i := 4) sc_Net_shortest_path.nd rfl (Or.inl rfl)) (pss_cons (ps_set (i := 5) sc_Net_shortest_path.nd rfl (Or.inl rfl) (pe_ix ix_list (pe_fld (pv 0) rfl) (pv 4) (fun _ _ => rfl)))
    (pss_one (ps_if (PW.pt (pw_and (pt_cmpR op_gt (pe_ix ix_list (pe_fld (pv 0) rfl) (pv 4) (fun _ _ => rfl)) pe_int (nomark _)) (pw_and (pt_cmpR op_lt (pe_ix ix_list (pv 1) (pv 5) (fun _ _ => rfl)) pe_int (nomark _)) (pw_and1 (pt_cmpR op_ne (pv 5) (pe_fld (pv 0) rfl) (nomark _)))))) (pss_cons (ps_asg (pv 4) (pg_sub (pv 1) (pv 5) set_list))
    (pss_one (ps_expr (pe_bm PySem.F.plainAttrs_list PySem.F.slot_list_append PySem.F.type_list_append mt_append (pv 2) (pa_cons (pv 5) pa_nil))))) pss_nil))))
    (pss_one (ps_aug (i := 3) sc_Net_shortest_path.nd rfl (Or.inl rfl) pe_int ip_add))))
    (pss_cons (ps_set (i := 6) sc_Net_shortest_path.nd rfl (Or.inl rfl) (pe_lst pa_nil))
    (pss_cons (ps_set (i := 7) sc_Net_shortest_path.nd rfl (Or.inl rfl) (pe_fld (pv 0) rfl))
    (C8.pss_cut (ps_while PassesOwn.never (pt_cmpR op_ge (pe_ix ix_list (pv 1) (pv 7) (fun _ _ => rfl)) pe_int (nomark _)) (pss_cons (ps_expr (pe_bm PySem.F.plainAttrs_list PySem.F.slot_list_append PySem.F.type_list_append mt_append (pv 6) (pa_cons (pe_ix ix_list (pv 1) (pv 7) (fun _ _ => rfl)) pa_nil)))
    (pss_one (ps_set (i := 7) sc_Net_shortest_path.nd rfl (Or.inl rfl) (pe_ix ix_list (pe_fld (pv 0) rfl) (pe_op op_xor (pe_ix ix_list (pv 1) (pv 7) (fun _ _ => rfl)) pe_int) (fun _ _ => rfl))))))
    (pss_one (ps_ret (pv 6)))))))))), ?_⟩
  obtain ⟨H0, p, n, E, r, tl, rfl, ⟨s0, dx, hl, rl, el, ls, G, D⟩, hn, hE, hIn, hr0, k⟩ := h
  -- came = [-1 for k in range(self.sink + 1)]
  refine ⟨_, rfl, _, _, _, _, _, rfl, G.ins, T.c_Net, T.n_Net_sink, nf_sink, _, _, rfl, rfl, _, rfl, by omega, by omega, fun ca hca => ?_⟩
  refine lc_range (lo := 0) (fun i H' => H' = upd H ca (.lst (List.replicate i (V.int (-1))))) rfl ?_ ?_
  · rintro i H1 hi rfl
    refine ⟨rfl, _, rfl, _, upd_same, ?_, ?_⟩
    · rw [List.length_replicate]
      exact small_lt (by omega)
    · rw [upd_upd, List.replicate_succ']
  rintro Ha rfl
  have eN : (2 * (n : Int) + 1 + 1).toNat = 2 * n + 2 := by omega
  rw [eN, ← lmap_const_replicate]
  have sa : Same H (upd H ca (.lst (lmap (2 * n + 2) fun _ => V.int (-1)))) := Same.new hca
  have ha : upd H ca (.lst (lmap (2 * n + 2) fun _ => V.int (-1))) ca = some (.lst (lmap (2 * n + 2) fun _ => V.int (-1))) := upd_same
  generalize upd H ca (.lst (lmap (2 * n + 2) fun _ => V.int (-1))) = Ha at sa ha ⊢
  have Ga := G.same sa
  -- waiting = [self.source]; at = 0
  refine ⟨_, rfl, _, _, _, _, _, rfl, Ga.ins, T.c_Net, T.n_Net_source, nf_source, by show 1 ≤ sizeLine; decide, fun wa hwa => ?_⟩
  have hcw : ca ≠ wa := ne_of_none ha hwa
  have hwa0 : H wa = none := sa.free hwa
  have sb : Same H (upd Ha wa (.lst [V.int (2 * (n : Int))])) := sa.trans (Same.new hwa)
  have I0 : SpI H ca wa n E r (fun _ => -1) [2 * n] (upd Ha wa (.lst [V.int (2 * (n : Int))])) := ⟨sb, by rw [upd_ne hcw]; exact ha, by rw [upd_same, Net_src]; rfl, Bfs.start (by omega)⟩
  generalize upd Ha wa (.lst [V.int (2 * (n : Int))]) = Hb at I0 ⊢
  -- while at < len(waiting) and came[self.sink] < 0
  refine ⟨fun σ H' => ∃ f wt a eo ho, σ = [some (.ref p), some (.ref ca), some (.ref wa), some (.int a), eo, ho, none, none, none] ∧ SpI H ca wa n E r f wt H' ∧ (0 ≤ f (2 * n + 1) ∨ Seen E r wt wt.length), ?_, ?_⟩
  · refine ⟨fun m σ H' => ∃ f wt eo ho, ∃ a : Nat, σ = [some (.ref p), some (.ref ca), some (.ref wa), some (.int (a : Int)), eo, ho, none, none, none] ∧ SpI H ca wa n E r f wt H' ∧ Seen E r wt a ∧ a ≤ wt.length ∧ m = 2 * n + 2 - a, ⟨_, _, _, none, none, 0, rfl, I0, fun i v hi => by omega, Nat.zero_le _, rfl⟩, ?_⟩
    rintro m σ H' ⟨f, wt, eo, ho, a, rfl, I, hseen, hale, rfl⟩
    have G' := G.same I.same
    refine ⟨_, rfl, _, rfl, _, _, rfl, .inl (SqL.of I.wait), _, _, rfl, rfl, _, rfl, ?_⟩
    refine ite2 (fun c1 => ?_) (fun c1 => ?_)
    · have c1 : (a : Int) < ((wt.map vN).length : Nat) := of_decide_eq_true c1
      rw [List.length_map] at c1
      have c1 : a < wt.length := by omega
      refine ⟨_, rfl, _, rfl, _, _, _, _, _, rfl, G'.ins, T.c_Net, T.n_Net_sink, nf_sink, _, _, _, _, rfl, rfl, SqL.of (I.came), (by rw [Net_snk]; exact atI_lmap (by omega)), _, _, rfl, rfl, _, rfl, ?_⟩
      refine ite2 (fun c2 => ?_) (fun c2 => ?_)
      · have c2 : f (2 * n + 1) < 0 := of_decide_eq_true c2
        obtain ⟨u, hu⟩ : ∃ u, wt[a]? = some u := ⟨_, List.getElem?_eq_getElem c1⟩
        have hu2 : u < 2 * n + 2 := I.bfs.lt u (List.mem_of_getElem? hu)
        have hlen := I.len
        refine ⟨fun σ' H'' => ∃ f wt eo ho, ∃ b : Nat, σ' = [some (.ref p), some (.ref ca), some (.ref wa), some (.int (b : Int)), eo, ho, none, none, none] ∧ SpI H ca wa n E r f wt H'' ∧ Seen E r wt b ∧ b ≤ wt.length ∧ a < b, ?_, ?_⟩
        · rintro σ' H'' ⟨f', wt', eo', ho', b, rfl, I', h1, h2, h3⟩
          exact ⟨2 * n + 2 - b, by omega, f', wt', eo', ho', b, rfl, I', h1, h2, rfl⟩
        -- for edge in self.edges_out[waiting[at]]
        refine ⟨fun σ' H'' => ∃ f wt eo ho, σ' = [some (.ref p), some (.ref ca), some (.ref wa), some (.int (a : Int)), eo, ho, none, none, none] ∧ SpI H ca wa n E r f wt H'' ∧ Seen E r wt (a + 1) ∧ a + 1 ≤ wt.length, ?_, ?_⟩
        · refine ⟨_, rfl, _, _, _, _, _, rfl, G'.ins, T.c_Net, T.n_Net_edges_out, nf_edges, _, rfl, _, rfl, _, _, _, _, rfl, rfl, SqL.of (I.wait), (atI_nat (nv_get hu)), _, _, _, _, rfl, rfl, SqL.of (G'.ed), (atI_lmap hu2), _, rfl, ⟨_, SqL.of (G'.out u hu2)⟩, ?_⟩
          refine for_list (K := K) (a := ls u) (xs := osOf E u) (fun i σ' H'' => ∃ f wt eo ho, σ' = [some (.ref p), some (.ref ca), some (.ref wa), some (.int (a : Int)), eo, ho, none, none, none] ∧ SpI H ca wa n E r f wt H'' ∧ Seen E r wt a ∧ wt[a]? = some u ∧ ∀ e ∈ (outs E u).take i, 0 < r e → headOf E e ∈ wt)
            ⟨f, wt, eo, ho, rfl, I, hseen, hu, fun e he => by simp at he⟩ (fun i σ' H'' _ ⟨_, _, _, _, _, I', _⟩ => SqL.of (I'.same _ _ (G.out u hu2))) ?_ ?_
          · rintro i x σ' H'' hx ⟨f, wt, eo, ho, rfl, I, hseen, hu, hpre⟩
            obtain ⟨e, he, rfl⟩ := get_map hx
            have hem := mem_outs.mp (List.mem_of_getElem? he)
            have G' := G.same I.same
            have hh : headOf E e < 2 * n + 2 := hIn.head hem.1
            have ht := take_succ_get he
            have a1 : a < wt.length := lt_get hu
            -- head = self.heads[edge]
            refine ⟨_, rfl, _, _, _, _, _, rfl, G'.ins, T.c_Net, T.n_Net_heads, nf_heads, _, rfl, _, _, _, _, rfl, rfl, SqL.of (G'.hd), (atI_lmap hem.1), ?_⟩
            -- if self.rooms[edge] > 0 and came[head] < 0 and head != self.source
            refine ⟨_, rfl, _, _, _, _, _, rfl, G'.ins, T.c_Net, T.n_Net_rooms, nf_rooms, _, rfl, _, _, _, _, rfl, rfl, SqL.of (G'.rm), (atI_lmap hem.1), _, _, rfl, rfl, _, rfl, ?_⟩
            refine ite2 (fun d1 => ?_) (fun d1 => ?_)
            · have d1 : 0 < r e := of_decide_eq_true d1
              refine ⟨_, rfl, _, rfl, _, _, _, _, rfl, rfl, SqL.of (I.came), (atI_lmap hh), _, _, rfl, rfl, _, rfl, ?_⟩
              refine ite2 (fun d2 => ?_) (fun d2 => ?_)
              · have d2 : f (headOf E e) < 0 := of_decide_eq_true d2
                refine ⟨_, rfl, _, rfl, _, _, _, _, _, rfl, G'.ins, T.c_Net, T.n_Net_source, nf_source, rfl, _, rfl, ?_⟩
                refine ite2 (fun d3 => ?_) (fun d3 => ?_)
                · have d3 : headOf E e ≠ 2 * n := fun q => by
                    rw [Net_src] at d3
                    simp [vN, q] at d3
                  -- came[head] = edge
                  refine ⟨_, rfl, _, rfl, _, rfl, _, _, _, headOf E e, rfl, rfl, I.came, ixN_nat (by rw [lmap_length]; exact hh), ?_⟩
                  rw [lmap_set hh]
                  have s1 : Same H (upd H'' ca (.lst (lmap (2 * n + 2) fun j => if j = headOf E e then vN e else V.int (f j)))) := I.same.mut hca
                  have w1 : upd H'' ca (.lst (lmap (2 * n + 2) fun j => if j = headOf E e then vN e else V.int (f j))) wa = some (.lst (wt.map vN)) := by rw [upd_ne (Ne.symm hcw)]; exact I.wait
                  have c1 : upd H'' ca (.lst (lmap (2 * n + 2) fun j => if j = headOf E e then vN e else V.int (f j))) ca = some (.lst (lmap (2 * n + 2) fun v => V.int ((fun v => if v = headOf E e then (e : Int) else f v) v))) := by
                    rw [upd_same]
                    congr 3
                    funext j
                    by_cases q : j = headOf E e
                    · simp [q, vN]
                    · simp [q]
                  generalize upd H'' ca (.lst (lmap (2 * n + 2) fun j => if j = headOf E e then vN e else V.int (f j))) = H3 at s1 w1 c1 ⊢
                  -- waiting.append(head)
                  refine ⟨_, rfl, .inl ⟨rfl, _, SqL.of w1⟩, _, rfl, _, _, _, rfl, rfl, w1, ?_, ?_⟩
                  · rw [List.length_map]
                    have := I.len
                    exact small_lt (by omega)
                  · refine ⟨_, wt ++ [headOf E e], _, _, rfl, ⟨s1.mut hwa0, by rw [upd_ne hcw]; exact c1, by rw [upd_same, List.map_append]; rfl, I.bfs.visit hem.1 (by rw [hem.2]; exact hu) d1 hh d3 d2⟩, hseen.more (by omega), by rw [List.getElem?_append_left a1]; exact hu, fun e' he' hr' => ?_⟩
                    rw [ht] at he'
                    rcases List.mem_append.mp he' with q | q
                    · exact List.mem_append.mpr (.inl (hpre e' q hr'))
                    · rw [List.mem_singleton.mp q]; exact List.mem_append.mpr (.inr (List.mem_singleton.mpr rfl))
                · have d3 : headOf E e = 2 * n := by
                    rw [Net_src] at d3
                    simp [vN] at d3
                    exact_mod_cast d3
                  refine ⟨f, wt, _, _, rfl, I, hseen, hu, fun e' he' hr' => ?_⟩
                  rw [ht] at he'
                  rcases List.mem_append.mp he' with q | q
                  · exact hpre e' q hr'
                  · rw [List.mem_singleton.mp q, d3]; exact List.mem_of_getElem? I.bfs.hd
              · have d2 : ¬ f (headOf E e) < 0 := fun q => d2 (decide_eq_true q)
                refine ⟨f, wt, _, _, rfl, I, hseen, hu, fun e' he' hr' => ?_⟩
                rw [ht] at he'
                rcases List.mem_append.mp he' with q | q
                · exact hpre e' q hr'
                · rw [List.mem_singleton.mp q]
                  have hs : headOf E e ≠ 2 * n := fun z => by
                    have := I.bfs.fsrc
                    rw [← z] at this
                    exact d2 this
                  exact (I.bfs.mem _ hs).mp (by omega)
            · have d1 : ¬ 0 < r e := fun q => d1 (decide_eq_true q)
              refine ⟨f, wt, _, _, rfl, I, hseen, hu, fun e' he' hr' => ?_⟩
              rw [ht] at he'
              rcases List.mem_append.mp he' with q | q
              · exact hpre e' q hr'
              · rw [List.mem_singleton.mp q] at hr'; exact absurd hr' d1
          · rintro σ' H'' ⟨f, wt, eo, ho, rfl, I, hseen, hu, hpre⟩
            refine ⟨f, wt, eo, ho, rfl, I, fun i v hi hv e he ht hr => ?_, lt_get hu⟩
            rcases Nat.lt_or_ge i a with q | q
            · exact hseen i v q hv e he ht hr
            · have : i = a := by omega
              subst this
              rw [hu] at hv
              have := Option.some.inj hv
              subst this
              refine hpre e ?_ hr
              have e1 : (osOf E u).length = (outs E u).length := List.length_map _
              rw [e1, List.take_length]
              exact mem_outs.mpr ⟨he, ht⟩
        -- at += 1
        · rintro σ' H'' ⟨f, wt, eo, ho, rfl, I, h1, h2⟩
          refine ⟨_, rfl, _, _, rfl, rfl, ?_⟩
          exact ⟨f, wt, eo, ho, a + 1, rfl, I, h1, h2, by omega⟩
      · have c2 : ¬ f (2 * n + 1) < 0 := fun q => c2 (decide_eq_true q)
        exact ⟨f, wt, _, eo, ho, rfl, I, .inl (by omega)⟩
    · have c1 : ¬ (a : Int) < ((wt.map vN).length : Nat) := fun q => c1 (decide_eq_true q)
      rw [List.length_map] at c1
      have e1 : a = wt.length := by omega
      subst e1
      exact ⟨f, wt, _, eo, ho, rfl, I, .inr hseen⟩
  rintro σ H' ⟨f, wt, a, eo, ho, rfl, I, hend⟩
  have G' := G.same I.same
  -- path = []
  refine ⟨Nat.zero_le _, fun pa hpa => ?_⟩
  have hpc : pa ≠ ca := fun q => by rw [q, I.came] at hpa; cases hpa
  have hpa0 : H pa = none := I.same.free hpa
  -- node = self.sink
  have J0 : SpI H ca wa n E r f wt (upd H' pa (.lst [])) := ⟨I.same.trans (Same.new hpa), by rw [upd_ne (Ne.symm hpc)]; exact I.came, by
    have hpw : pa ≠ wa := fun q => by rw [q, I.wait] at hpa; cases hpa
    rw [upd_ne (Ne.symm hpw)]; exact I.wait, I.bfs⟩
  have hp0 : upd H' pa (.lst []) pa = some (.lst []) := upd_same
  generalize upd H' pa (.lst []) = H1 at J0 hp0 ⊢
  have G1 := G.same J0.same
  refine ⟨_, rfl, _, _, _, _, _, rfl, G1.ins, T.c_Net, T.n_Net_sink, nf_sink, ?_⟩
  -- while came[node] >= 0
  have hx : ∀ v : Nat, v < 2 * n + 2 → atI (lmap (2 * n + 2) fun v => V.int (f v)) (v : Int) = some (V.int (f v)) := fun v hv => atI_lmap hv
  refine ⟨fun σ' H'' => ∃ (nd : Nat) (path : List Nat), σ' = [some (.ref p), some (.ref ca), some (.ref wa), some (.int a), eo, ho, some (.ref pa), some (.int (nd : Int)), none] ∧ SpI H ca wa n E r f wt H'' ∧ H'' pa = some (.lst (path.map vN)) ∧ PathOk E r (2 * n) (2 * n + 1) path ∧ path.length ≤ 6000, ?_, ?_⟩
  · refine ⟨fun m σ' H'' => ∃ (nd : Nat) (path : List Nat), σ' = [some (.ref p), some (.ref ca), some (.ref wa), some (.int a), eo, ho, some (.ref pa), some (.int (nd : Int)), none] ∧ SpI H ca wa n E r f wt H'' ∧ H'' pa = some (.lst (path.map vN)) ∧ nd < 2 * n + 2 ∧
        ((f (2 * n + 1) < 0 ∧ path = [] ∧ nd = 2 * n + 1) ∨ (Way E r (2 * n + 1) wt nd m path ∧ (path = [] → nd = 2 * n + 1))), ?_, ?_⟩
    · by_cases c : f (2 * n + 1) < 0
      · exact ⟨0, 2 * n + 1, [], by rw [Net_snk]; rfl, J0, hp0, by omega, .inl ⟨c, rfl, rfl⟩⟩
      · have hm := (J0.bfs.mem (2 * n + 1) (by omega)).mp (by omega)
        obtain ⟨i, hi, hv⟩ := List.mem_iff_getElem.mp hm
        exact ⟨i, 2 * n + 1, [], by rw [Net_snk]; rfl, J0, hp0, by omega, .inr ⟨Way.start (by rw [List.getElem?_eq_getElem hi, hv]), fun _ => rfl⟩⟩
    rintro m σ' H'' ⟨nd, path, rfl, J, hp, hnd, hor⟩
    have G2 := G.same J.same
    refine ⟨_, rfl, _, rfl, _, _, _, _, rfl, rfl, SqL.of (J.came), (hx nd hnd), _, _, rfl, rfl, _, rfl, ?_⟩
    have hlenp : ∀ path' : List Nat, path'.Nodup → (∀ e ∈ path', e < 2 * E.length ∧ 0 < r e) → path'.length ≤ 6000 := fun path' h1 h2 => by
      have := nodup_length (N := 2 * E.length) h1 (fun v hv => (h2 v hv).1)
      omega
    refine ite2 (fun c => ?_) (fun c => ?_)
    · have c : 0 ≤ f nd := of_decide_eq_true c
      rcases hor with ⟨q1, q2, q3⟩ | ⟨W, hw0⟩
      · rw [q3] at c; omega
      have hns : nd ≠ 2 * n := fun q => by have := J.bfs.fsrc; rw [q] at c; omega
      have hm0 : 0 < m := by
        rcases Nat.eq_zero_or_pos m with q | q
        · subst q
          have := W.at_.symm.trans J.bfs.hd
          exact absurd (Option.some.inj this) hns
        · exact q
      obtain ⟨e, j, h1, h2, h3, h4, h5, h6⟩ := J.bfs.back m nd W.at_ hm0
      have W' := W.next J.bfs.nd h2 h3 h4 h5 h6
      refine ⟨fun σ' H'' => ∃ (nd : Nat) (path : List Nat), σ' = [some (.ref p), some (.ref ca), some (.ref wa), some (.int a), eo, ho, some (.ref pa), some (.int (nd : Int)), none] ∧ SpI H ca wa n E r f wt H'' ∧ H'' pa = some (.lst (path.map vN)) ∧ nd < 2 * n + 2 ∧ Way E r (2 * n + 1) wt nd j path ∧ (path = [] → nd = 2 * n + 1), ?_, ?_⟩
      · rintro σ' H'' ⟨nd, path, rfl, J, hp, hnd, W, hw⟩
        exact ⟨j, h5, nd, path, rfl, J, hp, hnd, .inr ⟨W, hw⟩⟩
      -- path.append(came[node])
      have hpl : path.length ≤ 6000 := hlenp path W.nd fun e he => ⟨(W.ok e he).1, (W.ok e he).2.1⟩
      refine ⟨_, rfl, .inl ⟨rfl, _, SqL.of hp⟩, _, rfl, _, rfl, _, _, _, _, rfl, rfl, SqL.of (J.came), (hx nd hnd), _, _, _, rfl, rfl, hp, by rw [List.length_map]; exact small_lt (by omega), ?_⟩
      have s3 : SpI H ca wa n E r f wt (upd H'' pa (.lst (path.map vN ++ [V.int (f nd)]))) := ⟨J.same.mut hpa0, by rw [upd_ne (Ne.symm hpc)]; exact J.came, by
        have hpw : wa ≠ pa := fun q => by
          have h := J0.wait
          rw [q, hp0] at h
          injection h with h
          injection h with h
          have hw := lt_get J0.bfs.hd
          cases wt with
          | nil => simp at hw
          | cons _ _ => simp at h
        rw [upd_ne hpw]; exact J.wait, J.bfs⟩
      have p3 : upd H'' pa (.lst (path.map vN ++ [V.int (f nd)])) pa = some (.lst ((path ++ [e]).map vN)) := by rw [upd_same, h1, List.map_append]; rfl
      generalize upd H'' pa (.lst (path.map vN ++ [V.int (f nd)])) = H3 at s3 p3 ⊢
      have G3 := G.same s3.same
      -- node = self.heads[came[node] ^ 1]
      refine ⟨_, rfl, _, _, _, _, _, rfl, G3.ins, T.c_Net, T.n_Net_heads, nf_heads, _, rfl, _, rfl, _, _, _, _, rfl, rfl, SqL.of (s3.came), (hx nd hnd), _, _, rfl, rfl, _, _, _, _, rfl, rfl, SqL.of (G3.hd), (by rw [h1, xor_mate]; exact atI_lmap (mate_lt h2)), ?_⟩
      rw [head_mate]
      exact ⟨tailOf E e, path ++ [e], rfl, s3, p3, hIn.tail h2, W', fun q => by simp at q⟩
    · have c : f nd < 0 := by
        have : ¬ 0 ≤ f nd := fun q => c (decide_eq_true q)
        omega
      refine ⟨nd, path, rfl, J, hp, ?_⟩
      rcases hor with ⟨q1, q2, q3⟩ | ⟨W, hw0⟩
      · subst q2
        refine ⟨.inl ⟨rfl, ?_⟩, by simp⟩
        rcases hend with q | q
        · omega
        · exact J.bfs.cut q (by omega) q1 hr0
      · have hns : nd = 2 * n := Classical.byContradiction fun q => by
          have := (J.bfs.mem nd q).mpr (List.mem_of_getElem? W.at_)
          omega
        refine ⟨.inr ⟨fun q => ?_, by have hc := W.chain; rw [hns] at hc; exact hc, W.nd, fun e he => ⟨(W.ok e he).1, (W.ok e he).2.1⟩⟩, hlenp path W.nd fun e he => ⟨(W.ok e he).1, (W.ok e he).2.1⟩⟩
        have := hw0 q
        omega
  rintro σ' H'' ⟨nd, path, rfl, J, hp, hok, hlen⟩
  exact ⟨_, rfl, k _ _ _ J.same hpa0 hp hok hlen⟩
end HW

set_option Elab.async false
set_option linter.all false
set_option maxRecDepth 100000
set_option maxHeartbeats 4000000
set_option pp.maxSteps 400
set_option pp.fieldNotation false
namespace HW
open PySem PySem.Spec PyProof.Rows L2 He
open C8 (Cal Met Mak pe_c pe_mk pe_mt pe_mt0 pe_gc InsC call_isC)
open HP
theorem pushAll_snoc {a : Int} {e : Nat} : ∀ (es : List Nat) (r : Nat → Int), pushAll r a (es ++ [e]) = push1 (pushAll r a es) e a
  | [], _ => rfl
  | x :: es, r => by
    simp only [List.cons_append, pushAll]
    exact pushAll_snoc es _
theorem rs_push {E : List Edge} {r : Nat → Int} {e : Nat} {a : Int} (he : e < 2 * E.length) :
    ((rsOf E r).set e (V.int (r e - a))).set (mate e) (V.int (r (mate e) + a)) = rsOf E (push1 r e a) := by
  unfold rsOf
  rw [lmap_set he, lmap_set (mate_lt he)]
  refine lmap_congr fun j _ => ?_
  unfold push1
  by_cases h1 : j = mate e
  · rw [if_pos h1, if_pos h1]
  · rw [if_neg h1, if_neg h1]
    by_cases h2 : j = e
    · rw [if_pos h2, if_pos h2]
    · rw [if_neg h2, if_neg h2]
theorem nf_sp {n : Nat} {hl rl el : Addr} {tl : List (Str × V)} (h : tl.lookup ("shortest_path" : Str) = none) : (netF n hl rl el tl).lookup ("shortest_path" : Str) = none := h
theorem nf_jn {n : Nat} {hl rl el : Addr} {tl : List (Str × V)} (h : tl.lookup ("join_nodes" : Str) = none) : (netF n hl rl el tl).lookup ("join_nodes" : Str) = none := h
theorem nf_po {n : Nat} {hl rl el : Addr} {tl : List (Str × V)} (h : tl.lookup ("push_once" : Str) = none) : (netF n hl rl el tl).lookup ("push_once" : Str) = none := h
theorem nf_cl {n : Nat} {hl rl el : Addr} {tl : List (Str × V)} (h : tl.lookup ("closure" : Str) = none) : (netF n hl rl el tl).lookup ("closure" : Str) = none := h
def spPush (C : Addr) : Sp := fun vs H Q _ => ∃ (H0 : Hp) (p : Addr) (n : Nat) (E : List Edge) (r : Nat → Int) (t : Int) (tl : List (Str × V)), vs = [.ref p] ∧ NetSt C H0 H p n E r tl ∧ tl.lookup ("shortest_path" : Str) = none ∧ n ≤ 1000 ∧ E.length ≤ 3000 ∧ EIn (2 * n + 2) E ∧ Flow E (2 * n) (2 * n + 1) r t ∧
  (∀ H', NetSt C H0 H' p n E r tl → (∃ S, Parts (2 * n) (2 * n + 1) S ∧ rescut E S r = 0) → Q (.int 0) H') ∧
  (∀ H' r' a, 0 < a → NetSt C H0 H' p n E r' tl → Flow E (2 * n) (2 * n + 1) r' (t + a) → Q (.int a) H')

theorem sc_Net_push_once : FnScope ["self", "path", "edge", "amount"] ["self"] (defScope s_Net_push_once) := ⟨rfl, rfl, rfl, by decide +kernel, rfl, by decide +kernel, by decide +kernel⟩

theorem ok_Net_push_once {P : Program} {w : World} {K : PySem.W.Frag} {mg : Str → Option Value} {base : Heap} (T : Txt K mg) (F_Net_shortest_path : Met P w K mg base 1 (ga K "Net") "shortest_path" (spPath (ga K "Net")) []) : Met P w K mg base 2 (ga K "Net") "push_once" (spPush (ga K "Net")) [] := by
  refine met_of (D := d_Net_push_once) (T.says.def_ 3 rfl) T.c_Net T.m_Net_push_once (fun _ _ _ _ _ _ us hl => match us, hl with | [_], _ => rfl) sc_Net_push_once (fun vs H Q E h => ?_) (fun cdv A outer s H vs Q E hr h => ?_)
  · obtain ⟨_, p, _, _, _, _, _, rfl, _⟩ := h
    rfl
  have hu := hu_of hr
  refine ⟨_, (pss_cons (ps_set (i := 1) sc_Net_push_once.nd rfl (Or.inl rfl) (pe_mt0 F_Net_shortest_path hr (by decide) (pv 0)))
    (pss_cons (ps_if (pt_cmpR op_eq (pe_callB call_len_seq (by rfl) T.f_len (by decide +kernel) (pa_cons (pv 1) pa_nil)) pe_int (nomark _)) (pss_one (ps_ret pe_int)) pss_nil)
    (pss_cons (ps_set (i := 3) sc_Net_push_once.nd rfl (Or.inl rfl) (pe_callB (cr_min rfl) (by rfl) T.f_min (by decide +kernel) (pa_cons (pe_lc rfl sc_Net_push_once.nd (pi_list (pv 1)) (blkOk_by (N := ["self", "path", "edge", "amount"]) (sc := defScope s_Net_push_once) (own := [("edge", 2)]) (by decide +kernel)) (fun _ _ _ _ _ => (pg_name (i := 2) sc_Net_push_once.nd rfl (Or.inl rfl))) (fun _ _ _ _ _ => pts_nil) (fun _ _ _ _ _ => (pe_ix (ix_list_k (K := K) rfl) (pe_fld_k (K := K) rfl (pv 0) (by rfl)) (pv 2) (fun _ _ => rfl)))) pa_nil)))
    (C8.pss_cut (ps_for PassesOwn.never rfl (pi_list (pv 1)) (pg_name (i := 2) sc_Net_push_once.nd rfl (Or.inl rfl)) (pss_cons (ps_augS (pe_fld (pv 0) (by rfl)) (pv 2) get_list (pv 3) ip_sub set_list)
    (pss_one (ps_augS (pe_fld (pv 0) (by rfl)) (pe_op op_xor (pv 2) pe_int) get_list (pv 3) ip_add set_list))))
    (pss_one (ps_ret (pv 3))))))), ?_⟩
  obtain ⟨H0, p, n, E, r, t, tl, rfl, N, hno, hn, hE, hIn, F, k0, k1⟩ := h
  obtain ⟨s0, dx, hl, rl, el, ls, G, D⟩ := id N
  -- path = self.shortest_path()
  refine ⟨_, rfl, p, dx, _, rfl, G.ins, nf_sp hno, H0, p, n, E, r, tl, rfl, N, hn, hE, hIn, F.pos, fun H1 q path s1 hq hp hok hlen => ?_⟩
  have G1 := G.same s1
  -- if len(path) == 0: return 0
  refine ⟨_, rfl, q, _, rfl, .inl (SqL.of hp), rfl, _, rfl, ?_⟩
  rw [List.length_map]
  refine ite2 (fun c => ?_) (fun c => ?_)
  · have c : path.length = 0 := by
      have := of_decide_eq_true c
      injection this with this
      omega
    rcases hok with ⟨_, h2⟩ | ⟨h1, _⟩
    · exact k0 _ (N.grow s1) h2
    · exact absurd (List.length_eq_zero_iff.mp c) h1
  have c : path ≠ [] := fun z => c (by rw [z]; rfl)
  obtain ⟨_, hch, hnd, hall⟩ : path ≠ [] ∧ Chain E (2 * n + 1) path (2 * n) ∧ path.Nodup ∧ ∀ e ∈ path, e < 2 * E.length ∧ 0 < r e := by
    rcases hok with ⟨h1, _⟩ | h
    · exact absurd h1 c
    · exact h
  -- amount = min([self.rooms[edge] for edge in path])
  refine ⟨_, rfl, q, rfl, ⟨_, SqL.of hp⟩, fun L hL => ?_⟩
  have hqL : q ≠ L := ne_of_none hp hL
  refine lc_list (K := K) (a := q) (xs := path.map vN) (fun i H' => H' = upd H1 L (.lst (((path.take i).map r).map V.int))) (by rw [List.take_zero]; rfl) (fun i H' _ e => by
      subst e
      exact SqL.of (by rw [upd_ne hqL]; exact hp)) ?_ ?_
  · rintro i x H' hx rfl
    obtain ⟨e, he, rfl⟩ := get_map hx
    have hem := hall e (List.mem_of_getElem? he)
    have GL := G1.same (Same.new (o := .lst (((path.take i).map r).map V.int)) hL)
    refine ⟨rfl, _, rfl, _, _, _, _, _, rfl, GL.ins, T.c_Net, T.n_Net_rooms, nf_rooms, _, rfl, _, _, _, _, rfl, rfl, SqL.of (GL.rm), (atI_lmap hem.1), _, upd_same, ?_, ?_⟩
    · rw [List.length_map, List.length_map, List.length_take]
      exact small_lt (by omega)
    · rw [upd_upd, take_succ_get he, List.map_append, List.map_append]
      rfl
  rintro H2 rfl
  refine ⟨L, path.map r, rfl, SqL.of (by rw [upd_same, List.length_map, List.take_length]), by rw [List.length_map]; exact List.length_pos_iff.mpr c, fun a ham hale => ?_⟩
  obtain ⟨e0, he0, hae0⟩ := List.mem_map.mp ham
  have hapos : 0 < a := by rw [← hae0]; exact (hall e0 he0).2
  have hale : ∀ e ∈ path, a ≤ r e := fun e he => hale _ (List.mem_map.mpr ⟨e, he, rfl⟩)
  have s2 : Same H (upd H1 L (.lst (((path.take (path.map vN).length).map r).map V.int))) := s1.trans (Same.new hL)
  have hp2 : upd H1 L (.lst (((path.take (path.map vN).length).map r).map V.int)) q = some (.lst (path.map vN)) := by rw [upd_ne hqL]; exact hp
  generalize upd H1 L (.lst (((path.take (path.map vN).length).map r).map V.int)) = H2 at s2 hp2 ⊢
  have G2 := G.same s2
  have hqr : q ≠ rl := fun z => by
    rw [z, G.rm] at hq
    cases hq
  -- for edge in path
  refine ⟨fun σ H' => ∃ eo, σ = [some (.ref p), some (.ref q), eo, some (.int a)] ∧ Same H0 H' ∧ NetG (ga K "Net") H' p dx hl rl el ls n (hsOf E) (rsOf E (pushAll r a path)) (osOf E) tl, ?_, ?_⟩
  · refine ⟨_, rfl, q, rfl, ⟨_, SqL.of hp2⟩, ?_⟩
    refine for_list (K := K) (a := q) (xs := path.map vN) (fun i σ H' => ∃ eo, σ = [some (.ref p), some (.ref q), eo, some (.int a)] ∧ Same H0 H' ∧ H' q = some (.lst (path.map vN)) ∧ NetG (ga K "Net") H' p dx hl rl el ls n (hsOf E) (rsOf E (pushAll r a (path.take i))) (osOf E) tl)
      ⟨none, rfl, s0.trans s2, hp2, by rw [List.take_zero]; exact G2⟩ (fun i σ H' _ ⟨_, _, _, hq', _⟩ => SqL.of hq') ?_ ?_
    · rintro i x σ H' hx ⟨eo, rfl, s3, hp3, G3⟩
      obtain ⟨e, he, rfl⟩ := get_map hx
      have hem := hall e (List.mem_of_getElem? he)
      generalize hri : pushAll r a (path.take i) = ri at G3
      have ht : pushAll r a (path.take (i + 1)) = push1 ri e a := by rw [take_succ_get he, pushAll_snoc, hri]
      -- self.rooms[edge] -= amount
      refine ⟨_, rfl, _, _, _, _, _, rfl, G3.ins, T.c_Net, T.n_Net_rooms, nf_rooms, _, rfl, _, _, _, _, rfl, rfl, SqL.of (G3.rm), (atI_lmap hem.1), _, rfl, _, _, rfl, rfl, _, _, _, e, rfl, rfl, G3.rm, ixN_nat (by rw [rsOf_length]; exact hem.1), ?_⟩
      have G4 := G3.rm_upd (zs := (rsOf E ri).set e (V.int (ri e - a))) D
      have s4 : Same H0 (upd H' rl (.lst ((rsOf E ri).set e (V.int (ri e - a))))) := s3.mut D.r0
      have hp4 : upd H' rl (.lst ((rsOf E ri).set e (V.int (ri e - a)))) q = some (.lst (path.map vN)) := by rw [upd_ne hqr]; exact hp3
      generalize upd H' rl (.lst ((rsOf E ri).set e (V.int (ri e - a)))) = H4 at G4 s4 hp4 ⊢
      have hm : atI ((rsOf E ri).set e (V.int (ri e - a))) (mate e : Int) = some (V.int (ri (mate e))) := by
        refine atI_nat ?_
        rw [List.getElem?_set_ne (Ne.symm (mate_ne e))]
        exact lmap_get (mate_lt hem.1)
      -- self.rooms[edge ^ 1] += amount
      refine ⟨_, rfl, _, _, _, _, _, rfl, G4.ins, T.c_Net, T.n_Net_rooms, nf_rooms, _, rfl, _, _, rfl, rfl, _, _, _, _, rfl, rfl, SqL.of (G4.rm), (by rw [xor_mate]; exact hm), _, rfl, _, _, rfl, rfl, _, _, _, mate e, rfl, rfl, G4.rm, ?_, ?_⟩
      · rw [xor_mate]
        exact ixN_nat (by rw [List.length_set, rsOf_length]; exact mate_lt hem.1)
      rw [rs_push hem.1]
      have G5 := G4.rm_upd (zs := rsOf E (push1 ri e a)) D
      exact ⟨_, rfl, s4.mut D.r0, by rw [upd_ne hqr]; exact hp4, by rw [ht]; exact G5⟩
    · rintro σ H' ⟨eo, rfl, s3, hp3, G3⟩
      rw [List.length_map, List.take_length] at G3
      exact ⟨eo, rfl, s3, G3⟩
  rintro σ H' ⟨eo, rfl, s3, G3⟩
  exact ⟨_, rfl, k1 _ _ a hapos ⟨s3, dx, hl, rl, el, ls, G3, D⟩ (F.push hch hnd (fun e he => (hall e he).1) (by omega) hale)⟩
def clL (n : Nat) (wt : List Nat) : List V := lmap (2 * n + 2) fun v => V.bl (decide (v ∈ wt))
theorem clL_set {n : Nat} {wt : List Nat} {v : Nat} (h : v < 2 * n + 2) : (clL n wt).set v (V.bl true) = clL n (wt ++ [v]) := by
  unfold clL
  rw [lmap_set h]
  refine lmap_congr fun j _ => ?_
  by_cases e : j = v
  · rw [if_pos e, e]; simp
  · rw [if_neg e]; simp [e]
theorem clL_get {n : Nat} {wt : List Nat} {v : Nat} (h : v < 2 * n + 2) : atI (clL n wt) (v : Int) = some (V.bl (decide (v ∈ wt))) := atI_lmap h
structure ClI (H : Hp) (ia wa : Addr) (n : Nat) (E : List Edge) (r : Nat → Int) (st wt : List Nat) (H' : Hp) : Prop where
  same : Same H H'
  ins : H' ia = some (.lst (clL n wt))
  wait : H' wa = some (.lst (wt.map vN))
  clo : Clo E r (2 * n + 2) st wt
theorem ClI.len {H : Hp} {ia wa : Addr} {n : Nat} {E : List Edge} {r : Nat → Int} {st wt : List Nat} {H' : Hp} (I : ClI H ia wa n E r st wt H') : wt.length ≤ 2 * n + 2 := nodup_length I.clo.nd I.clo.lt
def spClo (C : Addr) : Sp := fun vs H Q _ => ∃ (H0 : Hp) (p : Addr) (n : Nat) (E : List Edge) (r : Nat → Int) (tl : List (Str × V)) (na : Addr) (nodes : List Nat), vs = [.ref p, .ref na] ∧ NetSt C H0 H p n E r tl ∧ H na = some (.lst (nodes.map vN)) ∧ n ≤ 1000 ∧ E.length ≤ 3000 ∧ EIn (2 * n + 2) E ∧
  (2 * n :: nodes).Nodup ∧ (∀ k ∈ nodes, k < 2 * n) ∧ (∀ i, 0 ≤ r i) ∧
  (∀ H' T, Same H H' → Reach E r (2 * n) nodes T → T (2 * n + 1) = true → Q .non H') ∧
  (∀ H' q T, Same H H' → H q = none → Reach E r (2 * n) nodes T → T (2 * n + 1) = false → H' q = some (.lst (lmap (2 * n) fun v => V.bl (T v))) → Q (.ref q) H')

theorem sc_Net_closure : FnScope ["self", "nodes", "inside", "waiting", "node", "at", "edge", "head", "k"] ["self", "nodes"] (defScope s_Net_closure) := ⟨rfl, rfl, rfl, by decide +kernel, rfl, by decide +kernel, by decide +kernel⟩

theorem ok_Net_closure {P : Program} {w : World} {K : PySem.W.Frag} {mg : Str → Option Value} {base : Heap} (T : Txt K mg)  : Met P w K mg base 1 (ga K "Net") "closure" (spClo (ga K "Net")) [] := by
  refine met_of (D := d_Net_closure) (T.says.def_ 4 rfl) T.c_Net T.m_Net_closure (fun _ _ _ _ _ _ us hl => match us, hl with | [_, _], _ => rfl) sc_Net_closure (fun vs H Q E h => ?_) (fun cdv A outer s H vs Q E hr h => ?_)
  · obtain ⟨_, p, _, _, _, _, na, _, rfl, _⟩ := h
    rfl
  have hu := hu_of hr
  refine ⟨_, (pss_cons (ps_setLc (i := 2) rfl sc_Net_closure.nd rfl rfl (sw_true rfl rfl rfl (by decide +kernel)) (pi_range1 (by rfl) T.f_range (pa_cons (pe_op op_add (pe_fld (pv 0) (by rfl)) pe_int) pa_nil)) (blkOk_by (N := ["self", "nodes", "inside", "waiting", "node", "at", "edge", "head", "k"]) (sc := defScope s_Net_closure) (own := [("k", 8)]) (by decide +kernel)) (fun _ _ _ _ _ => (pg_name (i := 8) sc_Net_closure.nd rfl (Or.inl rfl))) (fun _ _ _ _ _ => pts_nil) (fun _ _ _ _ _ => pe_bl))
    (pss_cons (ps_set (i := 3) sc_Net_closure.nd rfl (Or.inl rfl) (pe_op op_cat (pe_lst (pa_cons (pe_fld (pv 0) (by rfl)) pa_nil)) (pe_callTy call_list_of (by rfl) T.f_list (by decide +kernel) (pa_cons (pv 1) pa_nil))))
    (C8.pss_cut (ps_for PassesOwn.never rfl (pi_list (pv 3)) (pg_name (i := 4) sc_Net_closure.nd rfl (Or.inl rfl)) (pss_one (ps_asg pe_bl (pg_sub (pv 2) (pv 4) set_list))))
    (pss_cons (ps_set (i := 5) sc_Net_closure.nd rfl (Or.inl rfl) pe_int)
    (C8.pss_cut (ps_while PassesOwn.never (pt_cmpR op_lt (pv 5) (pe_callB call_len_seq (by rfl) T.f_len (by decide +kernel) (pa_cons (pv 3) pa_nil)) (nomark _)) (C8.pss_cut (ps_for PassesOwn.never rfl (pi_list (pe_ix ix_list (pe_fld (pv 0) (by rfl)) (pe_ix ix_list (pv 3) (pv 5) (fun _ _ => rfl)) (fun _ _ => rfl))) (pg_name (i := 6) sc_Net_closure.nd rfl (Or.inl rfl)) (pss_cons (ps_set (i := 7) sc_Net_closure.nd rfl (Or.inl rfl) (pe_ix ix_list (pe_fld (pv 0) (by rfl)) (pv 6) (fun _ _ => rfl)))
    (pss_one (ps_if (PW.pt (pw_and (pt_cmpR op_gt (pe_ix ix_list (pe_fld (pv 0) (by rfl)) (pv 6) (fun _ _ => rfl)) pe_int (nomark _)) (pw_and1 (pt_not (pt_val (pe_ix ix_list (pv 2) (pv 7) (fun _ _ => rfl))))))) (pss_cons (ps_asg pe_bl (pg_sub (pv 2) (pv 7) set_list))
    (pss_one (ps_expr (pe_bm PySem.F.plainAttrs_list PySem.F.slot_list_append PySem.F.type_list_append mt_append (pv 3) (pa_cons (pv 7) pa_nil))))) pss_nil))))
    (pss_one (ps_aug (i := 5) sc_Net_closure.nd rfl (Or.inl rfl) pe_int ip_add))))
    (pss_cons (ps_if (pt_val (pe_ix ix_list (pv 2) (pe_fld (pv 0) (by rfl)) (fun _ _ => rfl))) (pss_one (ps_ret pe_non)) pss_nil)
    (pss_one (ps_ret (pe_slice sl_list (pv 2) po_none (po_some (pe_fld (pv 0) (by rfl)))))))))))), ?_⟩
  obtain ⟨H0, p, n, E, r, tl, na, nodes, rfl, N, hna, hn, hE, hIn, hnd, hlt, hr0, k1, k2⟩ := h
  obtain ⟨s0, dx, hl, rl, el, ls, G, D⟩ := id N
  have hlen0 : nodes.length ≤ 2 * n := nodup_length (List.nodup_cons.mp hnd).2 hlt
  -- inside = [False for k in range(self.sink + 1)]
  refine ⟨_, rfl, _, _, _, _, _, rfl, G.ins, T.c_Net, T.n_Net_sink, nf_sink, _, _, rfl, rfl, _, rfl, by omega, by omega, fun ia hia => ?_⟩
  refine lc_range (lo := 0) (fun i H' => H' = upd H ia (.lst (List.replicate i (V.bl false)))) rfl ?_ ?_
  · rintro i H1 hi rfl
    refine ⟨rfl, _, upd_same, ?_, ?_⟩
    · rw [List.length_replicate]
      exact small_lt (by omega)
    · rw [upd_upd, List.replicate_succ']
  rintro Ha rfl
  have eN : (2 * (n : Int) + 1 + 1).toNat = 2 * n + 2 := by omega
  have e0 : List.replicate (2 * (n : Int) + 1 + 1).toNat (V.bl false) = clL n [] := by
    rw [eN, ← lmap_const_replicate]
    exact lmap_congr fun j _ => by simp
  rw [e0]
  have sa : Same H (upd H ia (.lst (clL n []))) := Same.new hia
  have ha : upd H ia (.lst (clL n [])) ia = some (.lst (clL n [])) := upd_same
  generalize upd H ia (.lst (clL n [])) = Ha at sa ha ⊢
  have Ga := G.same sa
  -- waiting = [self.source] + list(nodes)
  refine ⟨_, rfl, _, _, _, _, _, rfl, Ga.ins, T.c_Net, T.n_Net_source, nf_source, by show 1 ≤ sizeLine; decide, fun u1 hu1 => ?_⟩
  have sb : Same Ha (upd Ha u1 (.lst [V.int (2 * (n : Int))])) := Same.new hu1
  refine ⟨_, rfl, na, _, rfl, .inl (SqL.of (sb _ _ (sa _ _ hna))), fun u2 hu2 => ?_⟩
  have h12 : u1 ≠ u2 := fun z => by rw [← z, upd_same] at hu2; cases hu2
  refine ⟨u1, u2, _, _, rfl, rfl, by rw [upd_ne h12, upd_same], upd_same, ?_, fun wa hwa => ?_⟩
  · rw [List.length_map]
    show 1 + nodes.length ≤ sizeLine
    exact small_le (by omega)
  have sc : Same Ha (upd (upd Ha u1 (.lst [V.int (2 * (n : Int))])) u2 (.lst (nodes.map vN))) := sb.trans (Same.new hu2)
  generalize upd (upd Ha u1 (.lst [V.int (2 * (n : Int))])) u2 (.lst (nodes.map vN)) = Hc at sc hwa ⊢
  have hic : ia ≠ wa := ne_of_none (sc _ _ ha) hwa
  have hwa0 : H wa = none := (sa.trans sc).free hwa
  have hst : [V.int (2 * (n : Int))] ++ nodes.map vN = (2 * n :: nodes).map vN := by rw [Net_src]; rfl
  rw [hst]
  have sd : Same H (upd Hc wa (.lst ((2 * n :: nodes).map vN))) := (sa.trans sc).trans (Same.new hwa)
  have hi1 : upd Hc wa (.lst ((2 * n :: nodes).map vN)) ia = some (.lst (clL n [])) := by rw [upd_ne hic]; exact sc _ _ ha
  have hw1 : upd Hc wa (.lst ((2 * n :: nodes).map vN)) wa = some (.lst ((2 * n :: nodes).map vN)) := upd_same
  generalize upd Hc wa (.lst ((2 * n :: nodes).map vN)) = Hd at sd hi1 hw1 ⊢
  have hstl : ∀ v ∈ (2 * n :: nodes), v < 2 * n + 2 := fun v hv => by
    rcases List.mem_cons.mp hv with rfl | q
    · omega
    · have := hlt v q; omega
  -- for node in waiting: inside[node] = True
  refine ⟨fun σ H' => ∃ no, σ = [some (.ref p), some (.ref na), some (.ref ia), some (.ref wa), no, none, none, none, none] ∧ ClI H ia wa n E r (2 * n :: nodes) (2 * n :: nodes) H', ?_, ?_⟩
  · refine ⟨_, rfl, wa, rfl, ⟨_, SqL.of hw1⟩, ?_⟩
    refine for_list (K := K) (a := wa) (xs := (2 * n :: nodes).map vN) (fun i σ H' => ∃ no, σ = [some (.ref p), some (.ref na), some (.ref ia), some (.ref wa), no, none, none, none, none] ∧ Same H H' ∧ H' ia = some (.lst (clL n ((2 * n :: nodes).take i))) ∧ H' wa = some (.lst ((2 * n :: nodes).map vN)))
      ⟨none, rfl, sd, by rw [List.take_zero]; exact hi1, hw1⟩ (fun i σ H' _ ⟨_, _, _, _, h⟩ => SqL.of h) ?_ ?_
    · rintro i x σ H' hx ⟨no, rfl, s1, h1, h2⟩
      obtain ⟨v, hv, rfl⟩ := get_map hx
      have hvl := hstl v (List.mem_of_getElem? hv)
      refine ⟨_, rfl, _, rfl, _, _, _, v, rfl, rfl, h1, ixN_nat (by unfold clL; rw [lmap_length]; exact hvl), ?_⟩
      rw [clL_set hvl, ← take_succ_get hv]
      exact ⟨_, rfl, s1.mut hia, upd_same, by rw [upd_ne (Ne.symm hic)]; exact h2⟩
    · rintro σ H' ⟨no, rfl, s1, h1, h2⟩
      rw [List.length_map, List.take_length] at h1
      exact ⟨no, rfl, s1, h1, h2, Clo.start hnd hstl⟩
  rintro σ H' ⟨no, rfl, I⟩
  -- at = 0; while at < len(waiting)
  refine ⟨fun σ H' => ∃ wt a eo ho, σ = [some (.ref p), some (.ref na), some (.ref ia), some (.ref wa), no, some (.int a), eo, ho, none] ∧ ClI H ia wa n E r (2 * n :: nodes) wt H' ∧ Seen E r wt wt.length, ?_, ?_⟩
  · refine ⟨fun m σ H' => ∃ wt eo ho, ∃ a : Nat, σ = [some (.ref p), some (.ref na), some (.ref ia), some (.ref wa), no, some (.int (a : Int)), eo, ho, none] ∧ ClI H ia wa n E r (2 * n :: nodes) wt H' ∧ Seen E r wt a ∧ a ≤ wt.length ∧ m = 2 * n + 2 - a, ⟨_, _, none, none, 0, rfl, I, fun i v hi => by omega, Nat.zero_le _, rfl⟩, ?_⟩
    rintro m σ H' ⟨wt, eo, ho, a, rfl, I, hseen, hale, rfl⟩
    have G' := G.same I.same
    refine ⟨_, rfl, _, rfl, _, _, rfl, .inl (SqL.of I.wait), _, _, rfl, rfl, _, rfl, ?_⟩
    refine ite2 (fun c1 => ?_) (fun c1 => ?_)
    · have c1 : (a : Int) < ((wt.map vN).length : Nat) := of_decide_eq_true c1
      rw [List.length_map] at c1
      have c1 : a < wt.length := by omega
      obtain ⟨u, hu⟩ : ∃ u, wt[a]? = some u := ⟨_, List.getElem?_eq_getElem c1⟩
      have hu2 : u < 2 * n + 2 := I.clo.lt u (List.mem_of_getElem? hu)
      have hlen := I.len
      refine ⟨fun σ' H'' => ∃ wt eo ho, ∃ b : Nat, σ' = [some (.ref p), some (.ref na), some (.ref ia), some (.ref wa), no, some (.int (b : Int)), eo, ho, none] ∧ ClI H ia wa n E r (2 * n :: nodes) wt H'' ∧ Seen E r wt b ∧ b ≤ wt.length ∧ a < b, ?_, ?_⟩
      · rintro σ' H'' ⟨wt', eo', ho', b, rfl, I', h1, h2, h3⟩
        exact ⟨2 * n + 2 - b, by omega, wt', eo', ho', b, rfl, I', h1, h2, rfl⟩
      -- for edge in self.edges_out[waiting[at]]
      refine ⟨fun σ' H'' => ∃ wt eo ho, σ' = [some (.ref p), some (.ref na), some (.ref ia), some (.ref wa), no, some (.int (a : Int)), eo, ho, none] ∧ ClI H ia wa n E r (2 * n :: nodes) wt H'' ∧ Seen E r wt (a + 1) ∧ a + 1 ≤ wt.length, ?_, ?_⟩
      · refine ⟨_, rfl, _, _, _, _, _, rfl, G'.ins, T.c_Net, T.n_Net_edges_out, nf_edges, _, rfl, _, rfl, _, _, _, _, rfl, rfl, SqL.of (I.wait), (atI_nat (nv_get hu)), _, _, _, _, rfl, rfl, SqL.of (G'.ed), (atI_lmap hu2), _, rfl, ⟨_, SqL.of (G'.out u hu2)⟩, ?_⟩
        refine for_list (K := K) (a := ls u) (xs := osOf E u) (fun i σ' H'' => ∃ wt eo ho, σ' = [some (.ref p), some (.ref na), some (.ref ia), some (.ref wa), no, some (.int (a : Int)), eo, ho, none] ∧ ClI H ia wa n E r (2 * n :: nodes) wt H'' ∧ Seen E r wt a ∧ wt[a]? = some u ∧ ∀ e ∈ (outs E u).take i, 0 < r e → headOf E e ∈ wt)
          ⟨wt, eo, ho, rfl, I, hseen, hu, fun e he => by simp at he⟩ (fun i σ' H'' _ ⟨_, _, _, _, I', _⟩ => SqL.of (I'.same _ _ (G.out u hu2))) ?_ ?_
        · rintro i x σ' H'' hx ⟨wt, eo, ho, rfl, I, hseen, hu, hpre⟩
          obtain ⟨e, he, rfl⟩ := get_map hx
          have hem := mem_outs.mp (List.mem_of_getElem? he)
          have G' := G.same I.same
          have hh : headOf E e < 2 * n + 2 := hIn.head hem.1
          have ht := take_succ_get he
          have a1 : a < wt.length := lt_get hu
          refine ⟨_, rfl, _, _, _, _, _, rfl, G'.ins, T.c_Net, T.n_Net_heads, nf_heads, _, rfl, _, _, _, _, rfl, rfl, SqL.of (G'.hd), (atI_lmap hem.1), ?_⟩
          refine ⟨_, rfl, _, _, _, _, _, rfl, G'.ins, T.c_Net, T.n_Net_rooms, nf_rooms, _, rfl, _, _, _, _, rfl, rfl, SqL.of (G'.rm), (atI_lmap hem.1), _, _, rfl, rfl, _, rfl, ?_⟩
          refine ite2 (fun d1 => ?_) (fun d1 => ?_)
          · have d1 : 0 < r e := of_decide_eq_true d1
            refine ⟨_, rfl, _, rfl, _, _, _, _, rfl, rfl, SqL.of (I.ins), (clL_get hh), _, rfl, ?_⟩
            refine ite2 (fun d2 => ?_) (fun d2 => ?_)
            · have d2 : headOf E e ∉ wt := fun q => by rw [decide_eq_true q] at d2; cases d2
              refine ⟨_, rfl, _, rfl, _, _, _, headOf E e, rfl, rfl, I.ins, ixN_nat (by unfold clL; rw [lmap_length]; exact hh), ?_⟩
              rw [clL_set hh]
              have s1 : Same H (upd H'' ia (.lst (clL n (wt ++ [headOf E e])))) := I.same.mut hia
              have w1 : upd H'' ia (.lst (clL n (wt ++ [headOf E e]))) wa = some (.lst (wt.map vN)) := by rw [upd_ne (Ne.symm hic)]; exact I.wait
              have c1 : upd H'' ia (.lst (clL n (wt ++ [headOf E e]))) ia = some (.lst (clL n (wt ++ [headOf E e]))) := upd_same
              generalize upd H'' ia (.lst (clL n (wt ++ [headOf E e]))) = H3 at s1 w1 c1 ⊢
              refine ⟨_, rfl, .inl ⟨rfl, _, SqL.of w1⟩, _, rfl, _, _, _, rfl, rfl, w1, ?_, ?_⟩
              · rw [List.length_map]
                have := I.len
                exact small_lt (by omega)
              · refine ⟨wt ++ [headOf E e], _, _, rfl, ⟨s1.mut hwa0, by rw [upd_ne hic]; exact c1, by rw [upd_same, List.map_append]; rfl, I.clo.visit hem.1 (by rw [hem.2]; exact List.mem_of_getElem? hu) d1 hh d2⟩, hseen.more (by omega), by rw [List.getElem?_append_left a1]; exact hu, fun e' he' hr' => ?_⟩
                rw [ht] at he'
                rcases List.mem_append.mp he' with q | q
                · exact List.mem_append.mpr (.inl (hpre e' q hr'))
                · rw [List.mem_singleton.mp q]; exact List.mem_append.mpr (.inr (List.mem_singleton.mpr rfl))
            · have d2 : headOf E e ∈ wt := Classical.byContradiction fun q => by rw [decide_eq_false q] at d2; exact d2 rfl
              refine ⟨wt, _, _, rfl, I, hseen, hu, fun e' he' hr' => ?_⟩
              rw [ht] at he'
              rcases List.mem_append.mp he' with q | q
              · exact hpre e' q hr'
              · rw [List.mem_singleton.mp q]; exact d2
          · have d1 : ¬ 0 < r e := fun q => d1 (decide_eq_true q)
            refine ⟨wt, _, _, rfl, I, hseen, hu, fun e' he' hr' => ?_⟩
            rw [ht] at he'
            rcases List.mem_append.mp he' with q | q
            · exact hpre e' q hr'
            · rw [List.mem_singleton.mp q] at hr'; exact absurd hr' d1
        · rintro σ' H'' ⟨wt, eo, ho, rfl, I, hseen, hu, hpre⟩
          refine ⟨wt, eo, ho, rfl, I, fun i v hi hv e he ht hr => ?_, lt_get hu⟩
          rcases Nat.lt_or_ge i a with q | q
          · exact hseen i v q hv e he ht hr
          · have : i = a := by omega
            subst this
            rw [hu] at hv
            have := Option.some.inj hv
            subst this
            refine hpre e ?_ hr
            have e1 : (osOf E u).length = (outs E u).length := List.length_map _
            rw [e1, List.take_length]
            exact mem_outs.mpr ⟨he, ht⟩
      · rintro σ' H'' ⟨wt, eo, ho, rfl, I, h1, h2⟩
        refine ⟨_, rfl, _, _, rfl, rfl, ?_⟩
        exact ⟨wt, eo, ho, a + 1, rfl, I, h1, h2, by omega⟩
    · have c1 : ¬ (a : Int) < ((wt.map vN).length : Nat) := fun q => c1 (decide_eq_true q)
      rw [List.length_map] at c1
      have e1 : a = wt.length := by omega
      subst e1
      exact ⟨wt, _, eo, ho, rfl, I, hseen⟩
  rintro σ H' ⟨wt, a, eo, ho, rfl, I, hseen⟩
  have G' := G.same I.same
  have hR := I.clo.reach hseen
  -- if inside[self.sink]: return None
  refine ⟨_, rfl, _, rfl, _, _, _, _, _, rfl, G'.ins, T.c_Net, T.n_Net_sink, nf_sink, _, _, _, _, rfl, rfl, SqL.of (I.ins), (by rw [Net_snk]; exact clL_get (by omega)), _, rfl, ?_⟩
  refine ite2 (fun c => ?_) (fun c => ?_)
  · exact k1 _ _ I.same hR c
  -- return inside[:self.source]
  · have c : decide (2 * n + 1 ∈ wt) = false := by
      cases q : decide (2 * n + 1 ∈ wt) with
      | false => rfl
      | true => exact absurd q c
    refine ⟨_, rfl, _, rfl, _, _, _, _, _, rfl, G'.ins, T.c_Net, T.n_Net_source, nf_source, _, rfl, ia, _, rfl, SqL.of I.ins, fun q hq => ?_⟩
    refine k2 _ q _ (I.same.trans (Same.new hq)) (I.same.free hq) hR c ?_
    rw [upd_same]
    unfold cutV
    rw [Net_src, HT.sIx_none, HT.sIx_nat]
    congr 2
    unfold clL
    rw [lmap_length, List.drop_zero, Nat.sub_zero, Nat.min_eq_left (by omega), lmap_take (by omega)]
end HW

set_option Elab.async false
set_option linter.all false
set_option maxRecDepth 100000
set_option maxHeartbeats 4000000
set_option pp.maxSteps 400
set_option pp.fieldNotation false
namespace HW
open PySem PySem.Spec PyProof.Rows L2 He
open C8 (Cal Met Mak pe_c pe_mk pe_mt pe_mt0 pe_gc InsC call_isC)
open HP
/-! ### lists of tuples in the heap -/
def TupsAt {α : Type} (f : α → List V) (H : Hp) (ts : List Addr) (xs : List α) : Prop :=
  ts.length = xs.length ∧ ∀ (i : Nat) (a : Addr) (q : α), ts[i]? = some a → xs[i]? = some q → H a = some (.tup (f q))
def LstT {α : Type} (f : α → List V) (H : Hp) (p : Addr) (xs : List α) : Prop := ∃ ts : List Addr, H p = some (.lst (ts.map vR)) ∧ TupsAt f H ts xs
section
variable {α : Type} {f : α → List V} {H H' : Hp} {ts : List Addr} {xs : List α} {p a : Addr} {q : α}
theorem TupsAt.nil : TupsAt f H [] [] := ⟨rfl, fun i a q h _ => by simp at h⟩
theorem TupsAt.same (h : TupsAt f H ts xs) (s : Same H H') : TupsAt f H' ts xs := ⟨h.1, fun i a q h1 h2 => s _ _ (h.2 i a q h1 h2)⟩
theorem TupsAt.snoc (h : TupsAt f H ts xs) (ha : H a = some (.tup (f q))) : TupsAt f H (ts ++ [a]) (xs ++ [q]) := by
  refine ⟨by rw [List.length_append, List.length_append, h.1]; rfl, fun i b x h1 h2 => ?_⟩
  rcases Nat.lt_trichotomy i ts.length with hl | hl | hl
  · rw [List.getElem?_append_left hl] at h1
    rw [List.getElem?_append_left (by rw [← h.1]; exact hl)] at h2
    exact h.2 i b x h1 h2
  · rw [hl, List.getElem?_append_right (Nat.le_refl _), Nat.sub_self] at h1
    rw [hl, h.1, List.getElem?_append_right (Nat.le_refl _), Nat.sub_self] at h2
    cases h1
    cases h2
    exact ha
  · rw [List.getElem?_eq_none (by rw [List.length_append]; simp; omega)] at h1
    cases h1
theorem TupsAt.get (h : TupsAt f H ts xs) {i : Nat} {v : V} (hv : (ts.map vR)[i]? = some v) : ∃ a q, ts[i]? = some a ∧ xs[i]? = some q ∧ v = .ref a ∧ H a = some (.tup (f q)) := by
  obtain ⟨a, ha, rfl⟩ := get_map hv
  have hi : i < xs.length := by rw [← h.1]; exact lt_get ha
  exact ⟨a, xs[i], ha, List.getElem?_eq_getElem hi, rfl, h.2 i a _ ha (List.getElem?_eq_getElem hi)⟩
theorem LstT.same (h : LstT f H p xs) (s : Same H H') : LstT f H' p xs := by
  obtain ⟨ts, h1, h2⟩ := h
  exact ⟨ts, s _ _ h1, h2.same s⟩
end
theorem lt1000 {n : Nat} (k : Nat) (h : n = k) (hk : decide (k < 1000) = true) : n < 1000 := by rw [h]; exact of_decide_eq_true hk
def arcV (q : Nat × Nat) : List V := [vN q.1, vN q.2]
def netTl (t : Int) (c : Addr) : List (Str × V) := [("total", .int t), ("carried", .ref c)]
def spNet (C : Addr) : Sp := fun vs H Q _ => ∃ (H0 : Hp) (p dx pa aa : Addr) (ps : List Int) (A : List (Nat × Nat)), vs = [.ref p, .ref pa, .ref aa] ∧ Same H0 H ∧ H0 p = none ∧ H p = some (.ins C dx []) ∧
  H0 pa = some (.lst (ps.map vI)) ∧ LstT arcV H0 aa A ∧ (∀ x ∈ ps, 0 ≤ x) ∧ ArcsIn ps.length A ∧ ps.length ≤ 100 ∧ A.length ≤ 1500 ∧
  ∀ H' r t c, NetSt C H0 H' p ps.length (netE ps A) r (netTl t c) → Full (netE ps A) (2 * ps.length) (2 * ps.length + 1) r t → Q .non H'
theorem NetG.tl_upd {C : Addr} {H : Hp} {p dx hl rl el : Addr} {ls : Nat → Addr} {n : Nat} {hs rs : List V} {os : Nat → List V} {tl tl' : List (Str × V)} (G : NetG C H p dx hl rl el ls n hs rs os tl) : NetG C (upd H p (.ins C dx (netF n hl rl el tl'))) p dx hl rl el ls n hs rs os tl' :=
  ⟨upd_same, by rw [upd_ne (Ne.symm (G.pne G.hd))]; exact G.hd, by rw [upd_ne (Ne.symm (G.pne G.rm))]; exact G.rm, by rw [upd_ne (Ne.symm (G.pne G.ed))]; exact G.ed, fun v hv => by rw [upd_ne (Ne.symm (G.pne (G.out v hv)))]; exact G.out v hv⟩
theorem baseE_in {n : Nat} : ∀ {xs : List Int} {i : Nat}, i + xs.length ≤ n → EIn (2 * n + 2) (baseE n xs i)
  | [], _, _ => fun x h => by cases h
  | y :: xs, i, h => fun x hx => by
    simp only [baseE, List.mem_cons, List.length_cons] at hx h
    rcases hx with rfl | rfl | hx
    · exact ⟨by simp, by simp; omega⟩
    · exact ⟨by simp; omega, by simp⟩
    · exact baseE_in (by omega) x hx
theorem netE_in {ps : List Int} {A : List (Nat × Nat)} (h : ArcsIn ps.length A) : EIn (2 * ps.length + 2) (netE ps A) := by
  intro x hx
  rcases List.mem_append.mp hx with q | q
  · exact baseE_in (by simp) x q
  · obtain ⟨y, hy, rfl⟩ := List.mem_map.mp q
    have := h y hy
    exact ⟨by simp; omega, by simp; omega⟩
theorem netE_length {ps : List Int} {A : List (Nat × Nat)} : (netE ps A).length = 2 * ps.length + A.length := by
  unfold netE arcE
  rw [List.length_append, baseE_length, List.length_map]
theorem baseE_cp {n : Nat} : ∀ {xs : List Int} {i : Nat}, (∀ x ∈ xs, 0 ≤ x) → ∀ e ∈ baseE n xs i, 0 ≤ e.cp
  | [], _, _ => fun x h => by cases h
  | y :: xs, i, h => fun x hx => by
    simp only [baseE, List.mem_cons] at hx
    rcases hx with rfl | rfl | hx
    · exact h y (List.mem_cons.mpr (.inl rfl))
    · exact h y (List.mem_cons.mpr (.inl rfl))
    · exact baseE_cp (fun z hz => h z (List.mem_cons.mpr (.inr hz))) x hx
theorem netE_cp {ps : List Int} {A : List (Nat × Nat)} (h : ∀ x ∈ ps, 0 ≤ x) : ∀ e ∈ netE ps A, 0 ≤ e.cp := by
  intro x hx
  rcases List.mem_append.mp hx with q | q
  · exact baseE_cp h x q
  · obtain ⟨y, hy, rfl⟩ := List.mem_map.mp q
    have := sum_nonneg' h
    show 0 ≤ HP.bound ps
    unfold HP.bound
    omega
theorem arcE_snoc {b : Int} {A : List (Nat × Nat)} {q : Nat × Nat} : arcE b (A ++ [q]) = arcE b A ++ [⟨q.1, q.2, b⟩] := by unfold arcE; rw [List.map_append]; rfl
theorem spPush_of {C : Addr} {H0 H : Hp} {p : Addr} {n : Nat} {E : List Edge} {r : Nat → Int} {t : Int} {tl : List (Str × V)} {Q : VK} {X : XK} (N : NetSt C H0 H p n E r tl) (hno : tl.lookup ("shortest_path" : Str) = none) (hn : n ≤ 1000) (hE : E.length ≤ 3000) (hI : EIn (2 * n + 2) E) (F : Flow E (2 * n) (2 * n + 1) r t)
    (k : ∀ H' r' a, 0 ≤ a → (a = 0 → ∃ S, Parts (2 * n) (2 * n + 1) S ∧ rescut E S r' = 0) → NetSt C H0 H' p n E r' tl → Flow E (2 * n) (2 * n + 1) r' (t + a) → Q (.int a) H') : spPush C [.ref p] H Q X :=
  ⟨H0, p, n, E, r, t, tl, rfl, N, hno, hn, hE, hI, F, fun H' N' c => k H' r 0 (Int.le_refl 0) (fun _ => c) N' (by rw [Int.add_zero]; exact F), fun H' r' a ha N' F' => k H' r' a (Int.le_of_lt ha) (fun z => by omega) N' F'⟩

theorem sc_Net_init : FnScope ["self", "prices", "arcs", "at", "price", "bound", "pair", "pushed", "first", "k"] ["self", "prices", "arcs"] (defScope s_Net_init) := ⟨rfl, rfl, rfl, by decide +kernel, rfl, by decide +kernel, by decide +kernel⟩

theorem ok_Net_init {P : Program} {w : World} {K : PySem.W.Frag} {mg : Str → Option Value} {base : Heap} (T : Txt K mg) (F_Net_join_nodes : Met P w K mg base 1 (ga K "Net") "join_nodes" (spJoin (ga K "Net")) []) (F_Net_push_once : Met P w K mg base 2 (ga K "Net") "push_once" (spPush (ga K "Net")) []) : Mak P w K mg base 3 "Net" (ga K "Net") (spNet (ga K "Net")) [] := by
  refine mak_of (D := d_Net_init) (T.says.def_ 0 rfl) T.mk_Net T.g_Net (fun _ _ _ _ _ _ us hl => match us, hl with | [_, _, _], _ => rfl) sc_Net_init (fun vs H Q E h => ?_) (fun cdv A outer s H vs Q E hr h => ?_)
  · obtain ⟨_, p, _, pa, aa, _, _, rfl, _⟩ := h
    rfl
  have hu := hu_of hr
  refine ⟨_, (pss_cons (ps_fld (pv 0) (pe_callB call_len_seq (by rfl) T.f_len (by decide +kernel) (pa_cons (pv 1) pa_nil)) rfl)
    (pss_cons (ps_fld (pv 0) (pe_op op_mul pe_int (pe_fld (pv 0) (by rfl))) rfl)
    (pss_cons (ps_fld (pv 0) (pe_op op_add (pe_fld (pv 0) (by rfl)) pe_int) rfl)
    (pss_cons (ps_fld (pv 0) (pe_lst pa_nil) rfl)
    (pss_cons (ps_fld (pv 0) (pe_lst pa_nil) rfl)
    (pss_cons (ps_fld (pv 0) (pe_lc rfl sc_Net_init.nd (pi_range1 (by rfl) T.f_range (pa_cons (pe_op op_add (pe_fld (pv 0) (by rfl)) pe_int) pa_nil)) (blkOk_by (N := ["self", "prices", "arcs", "at", "price", "bound", "pair", "pushed", "first", "k"]) (sc := defScope s_Net_init) (own := [("k", 9)]) (by decide +kernel)) (fun _ _ _ _ _ => (pg_name (i := 9) sc_Net_init.nd rfl (Or.inl rfl))) (fun _ _ _ _ _ => pts_nil) (fun _ _ _ _ _ => (pe_lst pa_nil))) rfl)
    (C8.pss_cut (ps_for PassesOwn.never rfl (pi_enum (by rfl) T.f_enumerate (pa_cons (pv 1) pa_nil)) (pg_tup rfl (pgs_cons (pg_name (i := 3) sc_Net_init.nd rfl (Or.inl rfl)) (pgs_cons (pg_name (i := 4) sc_Net_init.nd rfl (Or.inl rfl)) pgs_nil))) (pss_cons (ps_expr (pe_mt F_Net_join_nodes hr (by decide) (pv 0) (pa_cons (pe_fld (pv 0) (by rfl)) (pa_cons (pv 3) (pa_cons (pv 4) pa_nil)))))
    (pss_one (ps_expr (pe_mt F_Net_join_nodes hr (by decide) (pv 0) (pa_cons (pe_op op_add (pe_fld (pv 0) (by rfl)) (pv 3)) (pa_cons (pe_fld (pv 0) (by rfl)) (pa_cons (pv 4) pa_nil))))))))
    (pss_cons (ps_set (i := 5) sc_Net_init.nd rfl (Or.inl rfl) (pe_op op_add (pe_callB (cr_sum rfl) (by rfl) T.f_sum (by decide +kernel) (pa_cons (pv 1) pa_nil)) pe_int))
    (C8.pss_cut (ps_for PassesOwn.never rfl (pi_list (pv 2)) (pg_name (i := 6) sc_Net_init.nd rfl (Or.inl rfl)) (pss_one (ps_expr (pe_mt F_Net_join_nodes hr (by decide) (pv 0) (pa_cons (pe_ix ix_tup (pv 6) pe_int (fun _ _ => rfl)) (pa_cons (pe_ix ix_tup (pv 6) pe_int (fun _ _ => rfl)) (pa_cons (pv 5) pa_nil)))))))
    (pss_cons (ps_fld (pv 0) pe_int rfl)
    (pss_cons (ps_set (i := 7) sc_Net_init.nd rfl (Or.inl rfl) (pe_mt0 F_Net_push_once hr (by decide) (pv 0)))
    (C8.pss_cut (ps_while PassesOwn.never (pt_cmpR op_gt (pv 7) pe_int (nomark _)) (pss_cons (ps_fldaug (pv 0) (pv 7) in_add)
    (pss_one (ps_set (i := 7) sc_Net_init.nd rfl (Or.inl rfl) (pe_mt0 F_Net_push_once hr (by decide) (pv 0))))))
    (pss_cons (ps_set (i := 8) sc_Net_init.nd rfl (Or.inr rfl) (pe_op op_add (pe_op op_mul pe_int (pe_fld (pv 0) (by rfl))) pe_int))
    (pss_one (ps_fld (pv 0) (pe_lc rfl sc_Net_init.nd (pi_range1 (by rfl) T.f_range (pa_cons (pe_callB call_len_seq (by rfl) T.f_len (by decide +kernel) (pa_cons (pv 2) pa_nil)) pa_nil)) (blkOk_by (N := ["self", "prices", "arcs", "at", "price", "bound", "pair", "pushed", "first", "k"]) (sc := defScope s_Net_init) (own := [("k", 9)]) (by decide +kernel)) (fun _ _ _ _ _ => (pg_name (i := 9) sc_Net_init.nd rfl (Or.inl rfl))) (fun _ _ _ _ _ => pts_nil) (fun _ _ _ _ _ => (pe_ix (ix_list_k (K := K) rfl) (pe_fld_k (K := K) rfl (pv 0) (by rfl)) (pe_op op_add (pv 8) (pe_op op_mul pe_int (pv 9))) (fun _ _ => rfl)))) rfl))))))))))))))), ?_⟩
  obtain ⟨H0, p, dx, pa, aa, ps, A, rfl, s0, hp0, hp, hpa, ⟨ts, haa, hts⟩, hps, hA, hn, hAl, k⟩ := h
  generalize hnn : ps.length = n at *
  -- self.many = len(prices); self.source; self.sink
  refine ⟨_, rfl, _, _, rfl, .inl (SqL.of (s0 _ _ hpa)), _, rfl, p, _, dx, _, rfl, hp, T.c_Net, T.n_Net_many, lt1000 0 rfl rfl, ?_⟩
  rw [List.length_map, hnn]
  rw [show putF ("many" : Str) (.int (n : Int)) ([] : List (Str × V)) = ([("many", .int (n : Int))] : List (Str × V)) from rfl]
  have s1 : Same H0 (upd H p (.ins (ga K "Net") dx ([("many", .int (n : Int))] : List (Str × V)))) := s0.mut hp0
  have hp1 : upd H p (.ins (ga K "Net") dx ([("many", .int (n : Int))] : List (Str × V))) p = some (.ins (ga K "Net") dx ([("many", .int (n : Int))] : List (Str × V))) := upd_same
  generalize upd H p (.ins (ga K "Net") dx ([("many", .int (n : Int))] : List (Str × V))) = H1 at s1 hp1 ⊢
  refine ⟨_, rfl, p, _, dx, _, _, rfl, hp1, T.c_Net, T.n_Net_many, rfl, _, _, rfl, rfl, (.inl ⟨by decide, by decide⟩), _, rfl, p, _, dx, _, rfl, hp1, T.c_Net, T.n_Net_source, lt1000 1 rfl rfl, ?_⟩
  rw [show putF ("source" : Str) (.int (2 * (n : Int))) ([("many", .int (n : Int))] : List (Str × V)) = ([("many", .int (n : Int)), ("source", .int (2 * (n : Int)))] : List (Str × V)) from rfl]
  have s2 : Same H0 (upd H1 p (.ins (ga K "Net") dx ([("many", .int (n : Int)), ("source", .int (2 * (n : Int)))] : List (Str × V)))) := s1.mut hp0
  have hp2 : upd H1 p (.ins (ga K "Net") dx ([("many", .int (n : Int)), ("source", .int (2 * (n : Int)))] : List (Str × V))) p = some (.ins (ga K "Net") dx ([("many", .int (n : Int)), ("source", .int (2 * (n : Int)))] : List (Str × V))) := upd_same
  generalize upd H1 p (.ins (ga K "Net") dx ([("many", .int (n : Int)), ("source", .int (2 * (n : Int)))] : List (Str × V))) = H2 at s2 hp2 ⊢
  refine ⟨_, rfl, p, _, dx, _, _, rfl, hp2, T.c_Net, T.n_Net_source, rfl, _, _, rfl, rfl, _, rfl, p, _, dx, _, rfl, hp2, T.c_Net, T.n_Net_sink, lt1000 2 rfl rfl, ?_⟩
  rw [show putF ("sink" : Str) (.int (2 * (n : Int) + 1)) ([("many", .int (n : Int)), ("source", .int (2 * (n : Int)))] : List (Str × V)) = ([("many", .int (n : Int)), ("source", .int (2 * (n : Int))), ("sink", .int (2 * (n : Int) + 1))] : List (Str × V)) from rfl]
  have s3 : Same H0 (upd H2 p (.ins (ga K "Net") dx ([("many", .int (n : Int)), ("source", .int (2 * (n : Int))), ("sink", .int (2 * (n : Int) + 1))] : List (Str × V)))) := s2.mut hp0
  have hp3 : upd H2 p (.ins (ga K "Net") dx ([("many", .int (n : Int)), ("source", .int (2 * (n : Int))), ("sink", .int (2 * (n : Int) + 1))] : List (Str × V))) p = some (.ins (ga K "Net") dx ([("many", .int (n : Int)), ("source", .int (2 * (n : Int))), ("sink", .int (2 * (n : Int) + 1))] : List (Str × V))) := upd_same
  generalize upd H2 p (.ins (ga K "Net") dx ([("many", .int (n : Int)), ("source", .int (2 * (n : Int))), ("sink", .int (2 * (n : Int) + 1))] : List (Str × V))) = H3 at s3 hp3 ⊢
  -- self.heads = []
  refine ⟨by show 0 ≤ sizeLine; decide, fun hl hhl => ?_⟩
  have hlp : p ≠ hl := ne_of_none hp3 hhl
  have hl0 : H0 hl = none := s3.free hhl
  have s4 : Same H0 (upd H3 hl (.lst [])) := s3.trans (Same.new hhl)
  have hp4 : upd H3 hl (.lst []) p = some (.ins (ga K "Net") dx [("many", .int (n : Int)), ("source", .int (2 * (n : Int))), ("sink", .int (2 * (n : Int) + 1))]) := by rw [upd_ne hlp]; exact hp3
  have hd4 : upd H3 hl (.lst []) hl = some (.lst []) := upd_same
  generalize upd H3 hl (.lst []) = H4 at s4 hp4 hd4 ⊢
  refine ⟨_, rfl, p, _, dx, _, rfl, hp4, T.c_Net, T.n_Net_heads, lt1000 3 rfl rfl, ?_⟩
  rw [show putF ("heads" : Str) (.ref hl) ([("many", .int (n : Int)), ("source", .int (2 * (n : Int))), ("sink", .int (2 * (n : Int) + 1))] : List (Str × V)) = ([("many", .int (n : Int)), ("source", .int (2 * (n : Int))), ("sink", .int (2 * (n : Int) + 1)), ("heads", .ref hl)] : List (Str × V)) from rfl]
  have s5 : Same H0 (upd H4 p (.ins (ga K "Net") dx ([("many", .int (n : Int)), ("source", .int (2 * (n : Int))), ("sink", .int (2 * (n : Int) + 1)), ("heads", .ref hl)] : List (Str × V)))) := s4.mut hp0
  have hp5 : upd H4 p (.ins (ga K "Net") dx ([("many", .int (n : Int)), ("source", .int (2 * (n : Int))), ("sink", .int (2 * (n : Int) + 1)), ("heads", .ref hl)] : List (Str × V))) p = some (.ins (ga K "Net") dx ([("many", .int (n : Int)), ("source", .int (2 * (n : Int))), ("sink", .int (2 * (n : Int) + 1)), ("heads", .ref hl)] : List (Str × V))) := upd_same
  have hd5 : upd H4 p (.ins (ga K "Net") dx ([("many", .int (n : Int)), ("source", .int (2 * (n : Int))), ("sink", .int (2 * (n : Int) + 1)), ("heads", .ref hl)] : List (Str × V))) hl = some (.lst []) := by rw [upd_ne (Ne.symm hlp)]; exact hd4
  generalize upd H4 p (.ins (ga K "Net") dx ([("many", .int (n : Int)), ("source", .int (2 * (n : Int))), ("sink", .int (2 * (n : Int) + 1)), ("heads", .ref hl)] : List (Str × V))) = H5 at s5 hp5 hd5 ⊢
  -- self.rooms = []
  refine ⟨by show 0 ≤ sizeLine; decide, fun rl hrl => ?_⟩
  have rlp : p ≠ rl := ne_of_none hp5 hrl
  have hr : hl ≠ rl := ne_of_none hd5 hrl
  have rl0 : H0 rl = none := s5.free hrl
  have s6 : Same H0 (upd H5 rl (.lst [])) := s5.trans (Same.new hrl)
  have hp6 : upd H5 rl (.lst []) p = some (.ins (ga K "Net") dx [("many", .int (n : Int)), ("source", .int (2 * (n : Int))), ("sink", .int (2 * (n : Int) + 1)), ("heads", .ref hl)]) := by rw [upd_ne rlp]; exact hp5
  have hd6 : upd H5 rl (.lst []) hl = some (.lst []) := by rw [upd_ne hr]; exact hd5
  have rm6 : upd H5 rl (.lst []) rl = some (.lst []) := upd_same
  generalize upd H5 rl (.lst []) = H6 at s6 hp6 hd6 rm6 ⊢
  refine ⟨_, rfl, p, _, dx, _, rfl, hp6, T.c_Net, T.n_Net_rooms, lt1000 4 rfl rfl, ?_⟩
  rw [show putF ("rooms" : Str) (.ref rl) ([("many", .int (n : Int)), ("source", .int (2 * (n : Int))), ("sink", .int (2 * (n : Int) + 1)), ("heads", .ref hl)] : List (Str × V)) = ([("many", .int (n : Int)), ("source", .int (2 * (n : Int))), ("sink", .int (2 * (n : Int) + 1)), ("heads", .ref hl), ("rooms", .ref rl)] : List (Str × V)) from rfl]
  have s7 : Same H0 (upd H6 p (.ins (ga K "Net") dx ([("many", .int (n : Int)), ("source", .int (2 * (n : Int))), ("sink", .int (2 * (n : Int) + 1)), ("heads", .ref hl), ("rooms", .ref rl)] : List (Str × V)))) := s6.mut hp0
  have hp7 : upd H6 p (.ins (ga K "Net") dx ([("many", .int (n : Int)), ("source", .int (2 * (n : Int))), ("sink", .int (2 * (n : Int) + 1)), ("heads", .ref hl), ("rooms", .ref rl)] : List (Str × V))) p = some (.ins (ga K "Net") dx ([("many", .int (n : Int)), ("source", .int (2 * (n : Int))), ("sink", .int (2 * (n : Int) + 1)), ("heads", .ref hl), ("rooms", .ref rl)] : List (Str × V))) := upd_same
  have hd7 : upd H6 p (.ins (ga K "Net") dx ([("many", .int (n : Int)), ("source", .int (2 * (n : Int))), ("sink", .int (2 * (n : Int) + 1)), ("heads", .ref hl), ("rooms", .ref rl)] : List (Str × V))) hl = some (.lst []) := by rw [upd_ne (Ne.symm hlp)]; exact hd6
  have rm7 : upd H6 p (.ins (ga K "Net") dx ([("many", .int (n : Int)), ("source", .int (2 * (n : Int))), ("sink", .int (2 * (n : Int) + 1)), ("heads", .ref hl), ("rooms", .ref rl)] : List (Str × V))) rl = some (.lst []) := by rw [upd_ne (Ne.symm rlp)]; exact rm6
  generalize upd H6 p (.ins (ga K "Net") dx ([("many", .int (n : Int)), ("source", .int (2 * (n : Int))), ("sink", .int (2 * (n : Int) + 1)), ("heads", .ref hl), ("rooms", .ref rl)] : List (Str × V))) = H7 at s7 hp7 hd7 rm7 ⊢
  -- self.edges_out = [[] for k in range(self.sink + 1)]
  refine ⟨_, rfl, p, _, dx, _, _, rfl, hp7, T.c_Net, T.n_Net_sink, rfl, _, _, rfl, rfl, _, rfl, by omega, by omega, fun el hel => ?_⟩
  have elp : p ≠ el := ne_of_none hp7 hel
  have he : hl ≠ el := ne_of_none hd7 hel
  have re : rl ≠ el := ne_of_none rm7 hel
  have el0 : H0 el = none := s7.free hel
  refine lc_range (lo := 0) (fun i H' => ∃ ls : Nat → Addr, Same H7 H' ∧ H' el = some (.lst (lmap i fun v => V.ref (ls v))) ∧ (∀ v, v < i → H' (ls v) = some (.lst []) ∧ H7 (ls v) = none ∧ ls v ≠ el) ∧ ∀ u v, u < i → v < i → ls u = ls v → u = v) ⟨fun _ => el, Same.new hel, upd_same, fun v hv => by omega, fun u v hu => by omega⟩ ?_ ?_
  · rintro i H8 hi ⟨ls, t1, t2, t3, t4⟩
    refine ⟨rfl, by show 0 ≤ sizeLine; decide, fun a ha => ⟨lmap i fun v => V.ref (ls v), by rw [upd_ne (ne_of_none t2 ha)]; exact t2, by rw [lmap_length]; exact small_lt (by omega), fun v => if v = i then a else ls v, (t1.trans (Same.new ha)).mut hel, ?_, fun v hv => ?_, fun u v hu hv q => ?_⟩⟩
    · rw [upd_same, lmap_snoc]
      dsimp only
      rw [if_pos rfl, lmap_congr (g := fun v => V.ref (if v = i then a else ls v)) (fun v hv => by rw [if_neg (by omega)])]
    · dsimp only
      by_cases c : v = i
      · rw [if_pos c, upd_ne (Ne.symm (ne_of_none t2 ha)), upd_same]
        exact ⟨rfl, t1.free ha, Ne.symm (ne_of_none t2 ha)⟩
      · obtain ⟨u1, u2, u3⟩ := t3 v (by omega)
        rw [if_neg c, upd_ne u3, upd_ne (ne_of_none u1 ha)]
        exact ⟨u1, u2, u3⟩
    · dsimp only at q
      by_cases cu : u = i <;> by_cases cv : v = i
      · omega
      · rw [if_pos cu, if_neg cv] at q
        exact absurd q.symm (ne_of_none (t3 v (by omega)).1 ha)
      · rw [if_neg cu, if_pos cv] at q
        exact absurd q (ne_of_none (t3 u (by omega)).1 ha)
      · rw [if_neg cu, if_neg cv] at q
        exact t4 u v (by omega) (by omega) q
  rintro H8 ⟨ls, t1, t2, t3, t4⟩
  have eN : (2 * (n : Int) + 1 + 1).toNat = 2 * n + 2 := by omega
  rw [eN] at t2 t3 t4
  have s8 := s7.trans t1
  have hp8 := t1 _ _ hp7
  have hd8 := t1 _ _ hd7
  have rm8 := t1 _ _ rm7
  refine ⟨_, rfl, p, _, dx, _, rfl, hp8, T.c_Net, T.n_Net_edges_out, lt1000 5 rfl rfl, ?_⟩
  rw [show putF ("edges_out" : Str) (.ref el) ([("many", .int (n : Int)), ("source", .int (2 * (n : Int))), ("sink", .int (2 * (n : Int) + 1)), ("heads", .ref hl), ("rooms", .ref rl)] : List (Str × V)) = netF n hl rl el [] from rfl]
  have N : NetSt (ga K "Net") H0 (upd H8 p (.ins (ga K "Net") dx (netF n hl rl el []))) p n [] (roomOf []) [] := by
    refine ⟨s8.mut hp0, dx, hl, rl, el, ls, ⟨upd_same, ?_, ?_, ?_, fun v hv => ?_⟩, ⟨hp0, hl0, rl0, el0, fun v hv => s7.free (t3 v hv).2.1, t4, hr, he, re, fun v hv => ?_, fun v hv => ?_, fun v hv => (t3 v hv).2.2⟩⟩
    · rw [upd_ne (Ne.symm hlp)]; exact hd8
    · rw [upd_ne (Ne.symm rlp)]; exact rm8
    · rw [upd_ne (Ne.symm elp)]; exact t2
    · rw [upd_ne (Ne.symm (ne_of_none hp7 (t3 v hv).2.1))]; exact (t3 v hv).1
    · exact Ne.symm (ne_of_none hd7 (t3 v hv).2.1)
    · exact Ne.symm (ne_of_none rm7 (t3 v hv).2.1)
  generalize upd H8 p (.ins (ga K "Net") dx (netF n hl rl el [])) = H9 at N ⊢
  -- for at, price in enumerate(prices)
  refine ⟨fun σ H' => ∃ ao po, σ = [some (.ref p), some (.ref pa), some (.ref aa), ao, po, none, none, none, none, none] ∧ NetSt (ga K "Net") H0 H' p n (baseE n ps 0) (roomOf (baseE n ps 0)) [], ?_, ?_⟩
  · refine ⟨_, rfl, pa, _, rfl, SqL.of (N.1 _ _ hpa), ?_⟩
    refine for_it (walk_enum (K := K) (a := pa) (xs := ps.map vI)) (fun i σ H' => ∃ ao po, σ = [some (.ref p), some (.ref pa), some (.ref aa), ao, po, none, none, none, none, none] ∧ NetSt (ga K "Net") H0 H' p n (baseE n (ps.take i) 0) (roomOf (baseE n (ps.take i) 0)) [])
      ⟨none, none, rfl, N⟩ (fun i σ H' _ ⟨_, _, _, N'⟩ => SqL.of (N'.1 _ _ hpa)) ?_ ?_
    · rintro i x σ H' H'' hi ⟨ao, po, rfl, N'⟩ ⟨tp, x1, x2, rfl, htp, rfl, e1, e2⟩
      cases e1
      obtain ⟨c, hc, rfl⟩ := get_map e2
      have hi2 : i < ps.length := lt_get hc
      have hl2 : (ps.take i).length = i := by rw [List.length_take]; omega
      have N2 := N'.grow (Same.new (o := .tup [V.int (i : Nat), vI c]) htp)
      have hb := baseE_length n (ps.take i) 0
      rw [hl2] at hb
      obtain ⟨_, dx', hl', rl', el', ls', G, _⟩ := id N2
      refine ⟨tp, _, rfl, .inl (.inl upd_same), rfl, _, _, rfl, _, _, rfl, rfl, ?_⟩
      generalize upd H' tp (.tup [V.int (i : Nat), vI c]) = H3' at N2 G ⊢
      refine ⟨_, rfl, p, dx', _, rfl, G.ins, rfl, _, rfl, _, _, _, _, _, rfl, G.ins, T.c_Net, T.n_Net_source, nf_source, _, rfl, _, rfl, ?_⟩
      refine ⟨H0, p, n, _, [], _, _, _, 2 * n, i, rfl, N2, Net_src n, rfl, by omega, by omega, by omega, fun H4' N4 => ?_⟩
      obtain ⟨_, dx', hl', rl', el', ls', G, _⟩ := id N4
      refine ⟨_, rfl, p, dx', _, rfl, G.ins, rfl, _, rfl, _, _, _, _, _, rfl, G.ins, T.c_Net, T.n_Net_many, nf_many, _, rfl, _, _, rfl, rfl, _, rfl, _, _, _, _, _, rfl, G.ins, T.c_Net, T.n_Net_sink, nf_sink, _, rfl, ?_⟩
      refine ⟨H0, p, n, _, [], _, _, _, n + i, 2 * n + 1, rfl, N4, by omega, Net_snk n, by omega, by omega, by simp; omega, fun H5' N5 => ?_⟩
      refine ⟨_, _, rfl, ?_⟩
      rw [take_succ_get hc, baseE_snoc, hl2, Nat.zero_add]
      rw [List.append_assoc] at N5
      exact N5
    · rintro σ H' ⟨ao, po, rfl, N'⟩
      rw [List.length_map, List.take_length] at N'
      exact ⟨ao, po, rfl, N'⟩
  rintro σ H10 ⟨ao, po, rfl, N⟩
  -- bound = sum(prices) + 1
  refine ⟨_, rfl, pa, ps, rfl, SqL.of (N.1 _ _ hpa), _, _, rfl, rfl, ?_⟩
  -- for pair in arcs
  refine ⟨fun σ H' => ∃ ao po qo, σ = [some (.ref p), some (.ref pa), some (.ref aa), ao, po, some (.int (ps.sum + 1)), qo, none, none, none] ∧ NetSt (ga K "Net") H0 H' p n (netE ps A) (roomOf (netE ps A)) [], ?_, ?_⟩
  · have hbl := baseE_length n ps 0
    refine ⟨_, rfl, aa, rfl, ⟨_, SqL.of (N.1 _ _ haa)⟩, ?_⟩
    refine for_list (K := K) (a := aa) (xs := ts.map vR) (fun i σ H' => ∃ ao po qo, σ = [some (.ref p), some (.ref pa), some (.ref aa), ao, po, some (.int (ps.sum + 1)), qo, none, none, none] ∧ NetSt (ga K "Net") H0 H' p n (baseE n ps 0 ++ arcE (HP.bound ps) (A.take i)) (roomOf (baseE n ps 0 ++ arcE (HP.bound ps) (A.take i))) [])
      ⟨ao, po, none, rfl, by rw [List.take_zero, show arcE (HP.bound ps) [] = [] from rfl, List.append_nil]; exact N⟩ (fun i σ H' _ ⟨_, _, _, _, N'⟩ => SqL.of (N'.1 _ _ haa)) ?_ ?_
    · rintro i x σ H' hx ⟨ao, po, qo, rfl, N'⟩
      obtain ⟨a, q, hi1, hq, rfl, hta⟩ := hts.get hx
      have hqm := hA q (List.mem_of_getElem? hq)
      have hta' := N'.1 _ _ hta
      have hal : (arcE (HP.bound ps) (A.take i)).length ≤ 1500 := by
        unfold arcE
        rw [List.length_map, List.length_take]
        omega
      obtain ⟨_, dx', hl', rl', el', ls', G, _⟩ := id N'
      refine ⟨_, rfl, p, dx', _, rfl, G.ins, rfl, ?_⟩
      refine ⟨_, rfl, _, _, _, _, rfl, rfl, SqT.of hta', rfl, _, rfl, _, _, _, _, rfl, rfl, SqT.of hta', rfl, _, rfl, ?_⟩
      refine ⟨H0, p, n, _, [], _, _, _, q.1, q.2, rfl, N', rfl, rfl, by omega, by omega, by rw [List.length_append, hbl]; omega, fun H4' N4 => ?_⟩
      refine ⟨_, _, _, rfl, ?_⟩
      rw [take_succ_get hq, arcE_snoc, ← List.append_assoc]
      exact N4
    · rintro σ H' ⟨ao, po, qo, rfl, N'⟩
      rw [List.length_map, hts.1, List.take_length] at N'
      refine ⟨ao, po, qo, rfl, ?_⟩
      unfold netE
      rw [hnn]
      exact N'
  rintro σ H11 ⟨ao, po, qo, rfl, N⟩
  have hEl : (netE ps A).length ≤ 3000 := by rw [netE_length, hnn]; omega
  have hEI : EIn (2 * n + 2) (netE ps A) := by rw [← hnn]; exact netE_in (hnn ▸ hA)
  -- self.total = 0
  have N2 : NetSt (ga K "Net") H0 H11 p n (netE ps A) (roomOf (netE ps A)) [] := N
  obtain ⟨s11, dx', hl', rl', el', ls', G, D⟩ := id N
  refine ⟨_, rfl, p, _, dx', _, rfl, G.ins, T.c_Net, T.n_Net_total, lt1000 6 rfl rfl, ?_⟩
  rw [show putF ("total" : Str) (.int 0) (netF n hl' rl' el' []) = netF n hl' rl' el' [("total", .int 0)] from rfl]
  have N3 : NetSt (ga K "Net") H0 (upd H11 p (.ins (ga K "Net") dx' (netF n hl' rl' el' [("total", .int 0)]))) p n (netE ps A) (roomOf (netE ps A)) [("total", .int 0)] := ⟨s11.mut hp0, dx', hl', rl', el', ls', G.tl_upd, D⟩
  generalize upd H11 p (.ins (ga K "Net") dx' (netF n hl' rl' el' [("total", .int 0)])) = H12 at N3 ⊢
  -- pushed = self.push_once()
  obtain ⟨_, dx', hl', rl', el', ls', G, D⟩ := id N3
  have F0 : Flow (netE ps A) (2 * n) (2 * n + 1) (roomOf (netE ps A)) 0 := Flow.init (netE_cp hps)
  refine ⟨_, rfl, p, dx', _, rfl, G.ins, rfl, ?_⟩
  unfold tNil
  refine spPush_of N3 rfl (by omega) hEl hEI F0 fun H13 r a ha hz N4 F => ?_
  -- while pushed > 0
  refine ⟨fun σ H' => ∃ ao po qo uo r T', σ = [some (.ref p), some (.ref pa), some (.ref aa), ao, po, some (.int (ps.sum + 1)), qo, uo, none, none] ∧ NetSt (ga K "Net") H0 H' p n (netE ps A) r [("total", .int T')] ∧ Full (netE ps A) (2 * n) (2 * n + 1) r T', ?_, ?_⟩
  · refine ⟨fun m σ H' => ∃ ao po qo r T' a, σ = [some (.ref p), some (.ref pa), some (.ref aa), ao, po, some (.int (ps.sum + 1)), qo, some (.int a), none, none] ∧ NetSt (ga K "Net") H0 H' p n (netE ps A) r [("total", .int T')] ∧ Flow (netE ps A) (2 * n) (2 * n + 1) r (T' + a) ∧ 0 ≤ a ∧ (a = 0 → ∃ S, Parts (2 * n) (2 * n + 1) S ∧ rescut (netE ps A) S r = 0) ∧ m = (ps.sum - T').toNat, ⟨_, ao, po, qo, r, 0, a, rfl, N4, F, ha, hz, rfl⟩, ?_⟩
    rintro m σ H' ⟨ao, po, qo, r, T', a, rfl, N4, F, ha, hz, rfl⟩
    refine ⟨_, rfl, _, _, rfl, rfl, _, rfl, ?_⟩
    refine ite2 (fun c => ?_) (fun c => ?_)
    · have c : 0 < a := of_decide_eq_true c
      have hle : T' + a ≤ ps.sum := by
        obtain ⟨S, hS, hc⟩ := net_all hps (show ArcsIn ps.length A by rw [hnn]; exact hA)
        rw [hnn] at hS
        exact Int.le_trans (F.le hS) hc
      refine ⟨fun σ' H'' => ∃ ao po qo r a2, σ' = [some (.ref p), some (.ref pa), some (.ref aa), ao, po, some (.int (ps.sum + 1)), qo, some (.int a2), none, none] ∧ NetSt (ga K "Net") H0 H'' p n (netE ps A) r [("total", .int (T' + a))] ∧ Flow (netE ps A) (2 * n) (2 * n + 1) r (T' + a + a2) ∧ 0 ≤ a2 ∧ (a2 = 0 → ∃ S, Parts (2 * n) (2 * n + 1) S ∧ rescut (netE ps A) S r = 0), ?_, ?_⟩
      · rintro σ' H'' ⟨ao, po, qo, r, a2, rfl, N5, F5, ha5, hz5⟩
        exact ⟨(ps.sum - (T' + a)).toNat, by omega, ao, po, qo, r, T' + a, a2, rfl, N5, F5, ha5, hz5, rfl⟩
      obtain ⟨s4, dx', hl', rl', el', ls', G, D⟩ := id N4
      refine ⟨_, rfl, p, _, dx', _, _, rfl, G.ins, T.c_Net, T.n_Net_total, rfl, _, rfl, _, _, rfl, rfl, dx', _, G.ins, lt1000 7 rfl rfl, ?_⟩
      rw [show putF ("total" : Str) (.int (T' + a)) (netF n hl' rl' el' [("total", .int T')]) = netF n hl' rl' el' [("total", .int (T' + a))] from rfl]
      have N5 : NetSt (ga K "Net") H0 (upd H' p (.ins (ga K "Net") dx' (netF n hl' rl' el' [("total", .int (T' + a))]))) p n (netE ps A) r [("total", .int (T' + a))] := ⟨s4.mut hp0, dx', hl', rl', el', ls', G.tl_upd, D⟩
      generalize upd H' p (.ins (ga K "Net") dx' (netF n hl' rl' el' [("total", .int (T' + a))])) = H5 at N5 ⊢
      obtain ⟨_, dx', hl', rl', el', ls', G, D⟩ := id N5
      refine ⟨_, rfl, p, dx', _, rfl, G.ins, rfl, ?_⟩
      dsimp only
      refine spPush_of N5 rfl (by omega) hEl hEI F fun H6 r' a2 ha2 hz2 N6 F6 => ?_
      exact ⟨ao, po, qo, r', a2, rfl, N6, F6, ha2, hz2⟩
    · have c : ¬ 0 < a := fun q => c (decide_eq_true q)
      have e0 : a = 0 := by omega
      subst e0
      rw [Int.add_zero] at F
      exact ⟨ao, po, qo, _, r, T', rfl, N4, ⟨F, hz rfl⟩⟩
  rintro σ H14 ⟨ao, po, qo, uo, r, t, rfl, N5, F⟩
  -- first = 4 * self.many + 1
  obtain ⟨s5, dx', hl', rl', el', ls', G, D⟩ := id N5
  refine ⟨_, rfl, _, _, _, _, _, rfl, G.ins, T.c_Net, T.n_Net_many, nf_many, _, _, rfl, rfl, (.inl ⟨by decide, by decide⟩), _, _, rfl, rfl, ?_⟩
  have hln : (ts.map vR).length = A.length := by rw [List.length_map]; exact hts.1
  refine ⟨_, rfl, _, _, rfl, .inl (SqL.of (N5.1 _ _ haa)), _, rfl, by omega, by rw [hln]; omega, fun c hc => ?_⟩
  refine lc_range (lo := 0) (fun i H' => H' = upd H14 c (.lst (lmap i fun j => V.int (r (4 * n + 1 + 2 * j))))) rfl ?_ ?_
  · rintro i H' hi rfl
    have GL := G.same (Same.new (o := .lst (lmap i fun j => V.int (r (4 * n + 1 + 2 * j)))) hc)
    have hat : atI (rsOf (netE ps A) r) (4 * (n : Int) + 1 + 2 * (0 + (i : Int))) = some (V.int (r (4 * n + 1 + 2 * i))) := by
      rw [hln] at hi
      have e : 4 * (n : Int) + 1 + 2 * (0 + (i : Int)) = ((4 * n + 1 + 2 * i : Nat) : Int) := by omega
      rw [e]
      exact atI_lmap (by rw [netE_length, hnn]; omega)
    refine ⟨rfl, _, rfl, _, _, _, _, _, rfl, GL.ins, T.c_Net, T.n_Net_rooms, nf_rooms, _, rfl, _, rfl, _, _, rfl, rfl, (.inl ⟨by decide, by decide⟩), _, _, rfl, rfl, _, _, _, _, rfl, rfl, SqL.of (GL.rm), (hat), _, upd_same, by rw [lmap_length]; exact small_lt (by omega), ?_⟩
    rw [upd_upd, lmap_snoc]
  rintro H15 rfl
  have GL := G.same (Same.new (o := .lst (lmap ((ts.map vR).length : Int).toNat fun j => V.int (r (4 * n + 1 + 2 * j)))) hc)
  have s15 := s5.trans (Same.new (o := .lst (lmap ((ts.map vR).length : Int).toNat fun j => V.int (r (4 * n + 1 + 2 * j)))) hc)
  refine ⟨_, rfl, p, _, dx', _, rfl, GL.ins, T.c_Net, T.n_Net_carried, lt1000 7 rfl rfl, ?_⟩
  exact k _ r t c ⟨s15.mut hp0, dx', hl', rl', el', ls', GL.tl_upd, D⟩ F
end HW

set_option Elab.async false
set_option linter.all false
set_option maxHeartbeats 4000000
/-! Webs of names, in plain Lean. -/
namespace HW
open PySem HP L2
def slt (a b : Str) : Prop := a.cps.toList < b.cps.toList
instance (a b : Str) : Decidable (slt a b) := inferInstanceAs (Decidable (a.cps.toList < b.cps.toList))
theorem str_ext {a b : Str} (h : a.cps.toList = b.cps.toList) : a = b := by
  cases a; cases b
  simp only [Str.mk.injEq]
  exact Array.toList_inj.mp h
theorem slt_irrefl (a : Str) : ¬ slt a a := List.lt_irrefl _
theorem slt_asymm {a b : Str} (h : slt a b) : ¬ slt b a := List.lt_asymm h
theorem slt_trans {a b c : Str} (h : slt a b) (k : slt b c) : slt a c := List.lt_trans h k
theorem slt_ne {a b : Str} (h : slt a b) : a ≠ b := fun e => slt_irrefl b (e ▸ h)
theorem slt_eq {a b : Str} (h : ¬ slt a b) (k : ¬ slt b a) : a = b := str_ext (List.le_antisymm (List.not_lt.mp k) (List.not_lt.mp h))
theorem slt_or {a b : Str} (h : a ≠ b) : slt a b ∨ slt b a := by
  by_cases h1 : slt a b
  · exact .inl h1
  · by_cases h2 : slt b a
    · exact .inr h2
    · exact absurd (slt_eq h1 h2) h
theorem Str_lt_iff {a b : Str} : Str.lt a b = true ↔ slt a b := decide_eq_true_iff
theorem nlt_trans {a b c : Str} (h : ¬ slt b a) (k : ¬ slt c b) : ¬ slt c a := fun z => by
  by_cases e : a = b
  · exact k (e ▸ z)
  · rcases slt_or e with q | q
    · exact k (slt_trans z q)
    · exact h q
open PyProof.Rows in
theorem rising_all : ∀ {l : List Str} {p : Str}, risingS p l = true → ∀ x ∈ l, ¬ slt x p
  | [], _, _, x, hx => by cases hx
  | y :: r, p, h, x, hx => by
    have h : (!PySem.Spec.ltCps y.cps.toList p.cps.toList && risingS y r) = true := h
    rw [Bool.and_eq_true, ltCps_eq] at h
    have h1 : ¬ slt y p := by
      have := h.1
      rw [Bool.not_eq_true', decide_eq_false_iff_not] at this
      exact this
    rcases List.mem_cons.mp hx with rfl | hx
    · exact h1
    · exact nlt_trans h1 (rising_all h.2 x hx)
open PyProof.Rows in
theorem rising_pairwise : ∀ {l : List Str} {p : Str}, risingS p l = true → (p :: l).Pairwise fun a b => ¬ slt b a
  | [], p, _ => List.pairwise_singleton _ _
  | y :: r, p, h => by
    refine List.pairwise_cons.mpr ⟨rising_all h, ?_⟩
    have h : (!PySem.Spec.ltCps y.cps.toList p.cps.toList && risingS y r) = true := h
    rw [Bool.and_eq_true] at h
    exact rising_pairwise h.2
open PyProof.Rows in
theorem sorted_pairwise {l : List Str} (h : sortedS l = true) (hn : l.Nodup) : l.Pairwise slt := by
  cases l with
  | nil => exact List.Pairwise.nil
  | cons p r =>
    have h1 := rising_pairwise h
    refine (h1.and hn).imp fun {a b} q => ?_
    rcases slt_or q.2 with z | z
    · exact z
    · exact absurd z q.1
theorem sorted_unique {l m : List Str} (hl : l.Pairwise slt) (hm : m.Pairwise slt) (h : l.Perm m) : l = m :=
  List.Perm.eq_of_pairwise (fun a b _ _ h1 h2 => absurd h2 (slt_asymm h1)) hl hm h
theorem sorted_nodup {l : List Str} (h : l.Pairwise slt) : l.Nodup := h.imp fun {a b} q => slt_ne q
theorem sorted_ext {l m : List Str} (hl : l.Pairwise slt) (hm : m.Pairwise slt) (h : ∀ a, a ∈ l ↔ a ∈ m) : l = m :=
  sorted_unique hl hm ((List.perm_ext_iff_of_nodup (sorted_nodup hl) (sorted_nodup hm)).mpr h)
/-! ### ties -/
abbrev Tie := Str × Str
def tieV (q : Tie) : List V := [.str q.1, .str q.2]
def adjOf (ties : List Tie) (a b : Str) : Bool := decide ((a, b) ∈ ties ∨ (b, a) ∈ ties)
theorem adjOf_iff {ties : List Tie} {a b : Str} : adjOf ties a b = true ↔ (a, b) ∈ ties ∨ (b, a) ∈ ties := decide_eq_true_iff
theorem adjOf_symm (ties : List Tie) (a b : Str) : adjOf ties a b = adjOf ties b a := by
  rw [Bool.eq_iff_iff, adjOf_iff, adjOf_iff]
  exact Or.comm
structure TiesOk (N : List Str) (ties : List Tie) : Prop where
  mem : ∀ q ∈ ties, q.1 ∈ N ∧ q.2 ∈ N ∧ q.1 ≠ q.2
  nodup : ties.Nodup
  noswap : ∀ q ∈ ties, (q.2, q.1) ∉ ties
  len : ties.length ≤ 400
def tiesOf (W : WebD Str) : List Tie := W.N.flatMap fun a => ((W.N.filter (W.adj a)).filter fun b => decide (slt a b)).map fun b => (a, b)
theorem mem_tiesOf {W : WebD Str} {q : Tie} : q ∈ tiesOf W ↔ q.1 ∈ W.N ∧ q.2 ∈ W.N ∧ W.adj q.1 q.2 = true ∧ slt q.1 q.2 := by
  unfold tiesOf
  simp only [List.mem_flatMap, List.mem_map, List.mem_filter, decide_eq_true_iff]
  constructor
  · rintro ⟨a, ha, b, ⟨⟨hb, hab⟩, hl⟩, rfl⟩
    exact ⟨ha, hb, hab, hl⟩
  · rintro ⟨h1, h2, h3, h4⟩
    exact ⟨q.1, h1, q.2, ⟨⟨h2, h3⟩, h4⟩, rfl⟩
/-- a web as the program keeps it -/
structure WebG (W : WebD Str) : Prop where
  ok : W.Ok
  sorted : W.N.Pairwise slt
  mem : ∀ a b, W.adj a b = true → a ∈ W.N ∧ b ∈ W.N
  le : ∀ a ∈ W.N, W.pr a ≤ maxPrice
  name : ∀ a ∈ W.N, NameOk a
  len : W.N.length ≤ 28
  ne : W.N ≠ []
theorem nodup_mapPair {a : Str} : ∀ {l : List Str}, l.Nodup → (l.map fun b => (a, b)).Nodup := fun {l} h => by
  rw [List.nodup_iff_pairwise_ne, List.pairwise_map]
  exact h.imp fun q z => q (by injection z)
theorem tiesOf_nodup {W : WebD Str} (hn : W.N.Nodup) : (tiesOf W).Nodup := by
  unfold tiesOf
  rw [List.nodup_iff_pairwise_ne, List.pairwise_flatMap]
  refine ⟨fun a _ => nodup_mapPair ((hn.filter _).filter _), hn.imp fun {a b} q x hx y hy z => ?_⟩
  obtain ⟨u, _, rfl⟩ := List.mem_map.mp hx
  obtain ⟨v, _, rfl⟩ := List.mem_map.mp hy
  exact q (by injection z)
def allPairs (N : List Str) : List Tie := N.flatMap fun a => (N.filter fun b => decide (slt a b)).map fun b => (a, b)
theorem flatMap_length_le {α β : Type} {f g : α → List β} : ∀ {l : List α}, (∀ a ∈ l, (f a).length ≤ (g a).length) → (l.flatMap f).length ≤ (l.flatMap g).length
  | [], _ => Nat.le_refl _
  | x :: r, h => by
    rw [List.flatMap_cons, List.flatMap_cons, List.length_append, List.length_append]
    have h1 := h x (List.mem_cons_self ..)
    have h2 := flatMap_length_le (fun a ha => h a (List.mem_cons_of_mem _ ha))
    omega
theorem allPairs_length : ∀ {N : List Str}, N.Pairwise slt → 2 * (allPairs N).length ≤ N.length * (N.length - 1)
  | [], _ => by simp [allPairs]
  | x :: r, h => by
    obtain ⟨h1, h2⟩ := List.pairwise_cons.mp h
    have ih := allPairs_length h2
    unfold allPairs at ih ⊢
    rw [List.flatMap_cons, List.length_append, List.length_map]
    have e1 : ((x :: r).filter fun b => decide (slt x b)).length ≤ r.length := by
      rw [List.filter_cons_of_neg (by simp [slt_irrefl])]
      exact List.length_filter_le _ _
    have e2 : (r.flatMap fun a => ((x :: r).filter fun b => decide (slt a b)).map fun b => (a, b)).length ≤ (r.flatMap fun a => (r.filter fun b => decide (slt a b)).map fun b => (a, b)).length := by
      refine flatMap_length_le fun a ha => ?_
      rw [List.length_map, List.length_map, List.filter_cons_of_neg (by simp [slt_asymm (h1 a ha)])]
      exact Nat.le_refl _
    have e3 : (x :: r).length * ((x :: r).length - 1) = 2 * r.length + r.length * (r.length - 1) := by
      rw [List.length_cons, Nat.add_sub_cancel]
      cases hr : r.length with
      | zero => rfl
      | succ k => rw [Nat.add_sub_cancel]; simp only [Nat.mul_add, Nat.add_mul]; omega
    rw [e3]
    omega
theorem tiesOf_length {W : WebD Str} (G : WebG W) : (tiesOf W).length ≤ 378 := by
  have h1 : (tiesOf W).length ≤ (allPairs W.N).length := by
    refine flatMap_length_le fun a _ => ?_
    rw [List.length_map, List.length_map, List.filter_filter]
    have : ∀ l : List Str, (l.filter fun b => decide (slt a b) && W.adj a b).length ≤ (l.filter fun b => decide (slt a b)).length := fun l => by
      rw [← List.countP_eq_length_filter, ← List.countP_eq_length_filter]
      exact List.countP_mono_left fun b _ h => by rw [Bool.and_eq_true] at h; exact h.1
    exact this _
  have h2 := allPairs_length G.sorted
  have h3 := G.len
  have h4 : W.N.length * (W.N.length - 1) ≤ 28 * 27 := Nat.mul_le_mul h3 (by omega)
  omega
theorem WebG.tiesOk {W : WebD Str} (G : WebG W) : TiesOk W.N (tiesOf W) := by
  refine ⟨fun q h => ?_, tiesOf_nodup G.ok.nodup, fun q h z => ?_, by have := tiesOf_length G; omega⟩
  · obtain ⟨h1, h2, _, h4⟩ := mem_tiesOf.mp h
    exact ⟨h1, h2, slt_ne h4⟩
  · exact slt_asymm (mem_tiesOf.mp h).2.2.2 (mem_tiesOf.mp z).2.2.2
theorem WebG.adj_tiesOf {W : WebD Str} (G : WebG W) (a b : Str) : adjOf (tiesOf W) a b = W.adj a b := by
  rw [Bool.eq_iff_iff, adjOf_iff, mem_tiesOf, mem_tiesOf]
  constructor
  · rintro (h | h)
    · exact h.2.2.1
    · rw [G.ok.symm]; exact h.2.2.1
  · intro h
    obtain ⟨ha, hb⟩ := G.mem a b h
    have hne : a ≠ b := fun e => by
      rw [e, G.ok.irr] at h
      cases h
    rcases slt_or hne with q | q
    · exact .inl ⟨ha, hb, h, q⟩
    · exact .inr ⟨hb, ha, by rw [G.ok.symm]; exact h, q⟩
/-- the web of these places, prices and ties -/
theorem web_good {N places : List Str} {pr : Str → Int} {ties : List Tie} (hp : N.Perm places) (hs : N.Pairwise slt) (ht : TiesOk places ties) (h1 : ∀ a ∈ places, 1 ≤ pr a) (h2 : ∀ a ∈ places, pr a ≤ maxPrice) (hn : ∀ a ∈ places, NameOk a) (hl : places.length ≤ 28) (h0 : places ≠ []) :
    WebG ⟨N, pr, adjOf ties⟩ := by
  refine ⟨⟨sorted_nodup hs, fun a ha => by have := h1 a (hp.mem_iff.mp ha); show 0 < pr a; omega, adjOf_symm ties, fun a => ?_⟩, hs, fun a b h => ?_, fun a ha => h2 a (hp.mem_iff.mp ha), fun a ha => hn a (hp.mem_iff.mp ha), by show N.length ≤ 28; rw [hp.length_eq]; exact hl, fun z => h0 ?_⟩
  · show adjOf ties a a = false
    cases e : adjOf ties a a with
    | false => rfl
    | true =>
      rcases adjOf_iff.mp e with q | q <;> exact absurd rfl (ht.mem _ q).2.2
  · rcases adjOf_iff.mp h with q | q
    · have := ht.mem _ q
      exact ⟨hp.mem_iff.mpr this.1, hp.mem_iff.mpr this.2.1⟩
    · have := ht.mem _ q
      exact ⟨hp.mem_iff.mpr this.2.1, hp.mem_iff.mpr this.1⟩
  · have z : N = [] := z
    have := hp.length_eq
    rw [z] at this
    exact List.length_eq_zero_iff.mp this.symm
/-- what partners collects -/
def partL (ties : List Tie) (a : Str) : List Str := ((ties.filter fun q => decide (q.1 = a)).map Prod.snd) ++ ((ties.filter fun q => decide (q.2 = a)).map Prod.fst)
theorem mem_partL {ties : List Tie} {a b : Str} : b ∈ partL ties a ↔ adjOf ties a b = true := by
  unfold partL
  rw [adjOf_iff]
  simp only [List.mem_append, List.mem_map, List.mem_filter, decide_eq_true_iff]
  constructor
  · rintro (⟨q, ⟨h1, h2⟩, h3⟩ | ⟨q, ⟨h1, h2⟩, h3⟩)
    · subst h2; subst h3; exact .inl h1
    · subst h2; subst h3; exact .inr h1
  · rintro (h | h)
    · exact .inl ⟨(a, b), ⟨h, rfl⟩, rfl⟩
    · exact .inr ⟨(b, a), ⟨h, rfl⟩, rfl⟩
theorem partL_nodup {N : List Str} {ties : List Tie} (h : TiesOk N ties) (a : Str) : (partL ties a).Nodup := by
  unfold partL
  rw [List.nodup_append]
  refine ⟨?_, ?_, ?_⟩
  · rw [List.nodup_iff_pairwise_ne, List.pairwise_map]
    refine (List.Pairwise.and_mem.mp (List.nodup_iff_pairwise_ne.mp (h.nodup.filter _))).imp fun {p q} z e => ?_
    obtain ⟨h1, h2, h3⟩ := z
    have e1 := of_decide_eq_true (List.mem_filter.mp h1).2
    have e2 := of_decide_eq_true (List.mem_filter.mp h2).2
    exact h3 (Prod.ext (e1.trans e2.symm) e)
  · rw [List.nodup_iff_pairwise_ne, List.pairwise_map]
    refine (List.Pairwise.and_mem.mp (List.nodup_iff_pairwise_ne.mp (h.nodup.filter _))).imp fun {p q} z e => ?_
    obtain ⟨h1, h2, h3⟩ := z
    have e1 := of_decide_eq_true (List.mem_filter.mp h1).2
    have e2 := of_decide_eq_true (List.mem_filter.mp h2).2
    exact h3 (Prod.ext e (e1.trans e2.symm))
  · intro x hx y hy e
    subst e
    obtain ⟨p, hp, rfl⟩ := List.mem_map.mp hx
    obtain ⟨q, hq, e⟩ := List.mem_map.mp hy
    obtain ⟨p1, p2⟩ := List.mem_filter.mp hp
    obtain ⟨q1, q2⟩ := List.mem_filter.mp hq
    have p2 := of_decide_eq_true p2
    have q2 := of_decide_eq_true q2
    refine h.noswap p p1 ?_
    have : (p.2, p.1) = q := Prod.ext e.symm (p2.trans q2.symm)
    rw [this]
    exact q1
theorem partL_sorted {N : List Str} {pl ys : List Str} {ties : List Tie} (hN : N.Pairwise slt) (hp : N.Perm pl) (h : TiesOk pl ties) {a : Str} (hy : ys.Perm (partL ties a)) (hs : PyProof.Rows.sortedS ys = true) : ys = N.filter (adjOf ties a) := by
  have hnd : ys.Nodup := hy.nodup_iff.mpr (partL_nodup h a)
  refine sorted_ext (sorted_pairwise hs hnd) (hN.filter _) fun b => ?_
  rw [hy.mem_iff, mem_partL, List.mem_filter]
  refine ⟨fun q => ⟨?_, q⟩, fun q => q.2⟩
  rcases adjOf_iff.mp q with z | z
  · exact hp.mem_iff.mpr (h.mem _ z).2.1
  · exact hp.mem_iff.mpr (h.mem _ z).1
/-- the pair of a tie, its names in order -/
theorem pairS_inj {a b c d : Str} (h : pairS a b = pairS c d) : (a = c ∧ b = d) ∨ (a = d ∧ b = c) := by
  unfold pairS at h
  split at h <;> split at h <;> simp only [List.cons.injEq] at h
  · exact .inl ⟨h.1, h.2.1⟩
  · exact .inr ⟨h.1, h.2.1⟩
  · exact .inr ⟨h.2.1, h.1⟩
  · exact .inl ⟨h.2.1, h.1⟩
end HW

set_option Elab.async false
set_option linter.all false
set_option maxRecDepth 100000
set_option maxHeartbeats 4000000
set_option pp.maxSteps 400
set_option pp.fieldNotation false
namespace HW
open PySem PySem.Spec PyProof.Rows L2 He
open C8 (Cal Met Mak pe_c pe_mk pe_mt pe_mt0 pe_gc InsC call_isC)
open HP
/-- some best choice has node i in S just if v is 1 or less, node n + i just if v is 1 or more -/
def CanN (ps : List Int) (A : List (Nat × Nat)) (t : Int) (i : Nat) (v : Int) : Prop := ∃ S, Opt ps A t S ∧ S i = decide (v ≤ 1) ∧ S (ps.length + i) = decide (1 ≤ v)
theorem canN_iff {F : List Str} {adj : Str → Str → Bool} {half : Str → Bool} {pr : Str → Int} {A : List (Nat × Nat)} {t v : Int} {i : Nat} {a : Str} (hF : F.Nodup) (hs : ∀ a b, adj a b = adj b a) (hA : ArcSpec F adj half A) (hi : F[i]? = some a) (h0 : 0 ≤ v) (h2 : v ≤ 2) :
    CanN (F.map pr) A t i v ↔ ∃ x, GAns F adj half x ∧ gcost F pr x = t ∧ x a = v := by
  constructor
  · rintro ⟨S, hS, e1, e2⟩
    refine (opt_val hF hs hA hi).mp ⟨S, hS, ?_⟩
    rw [List.length_map] at e2
    unfold val
    rw [e1, e2]
    have : v = 0 ∨ v = 1 ∨ v = 2 := by omega
    rcases this with rfl | rfl | rfl <;> rfl
  · rintro ⟨x, G, hc, hv⟩
    refine ⟨sOf F x, ⟨G.feas hA, by rw [List.length_map, G.cost]; exact hc⟩, ?_, ?_⟩
    · rw [sOf_left hi, hv]
    · rw [List.length_map, sOf_right hi, hv]
def spMay (C : Addr) : Sp := fun vs H Q _ => ∃ (H0 : Hp) (p : Addr) (ps : List Int) (A : List (Nat × Nat)) (r : Nat → Int) (t : Int) (c : Addr) (iv v : Int) (i : Nat), vs = [.ref p, .int iv, .int v] ∧ NetSt C H0 H p ps.length (netE ps A) r (netTl t c) ∧ Full (netE ps A) (2 * ps.length) (2 * ps.length + 1) r t ∧
  iv = (i : Int) ∧ i < ps.length ∧ 0 ≤ v ∧ v ≤ 2 ∧ (∀ x ∈ ps, 0 ≤ x) ∧ ArcsIn ps.length A ∧ ps.length ≤ 100 ∧ A.length ≤ 1500 ∧
  ∀ H' b, Same H H' → (b = true ↔ CanN ps A t i v) → Q (.bl b) H'
theorem spClo_of {C : Addr} {H0 H : Hp} {p : Addr} {ps : List Int} {A : List (Nat × Nat)} {r : Nat → Int} {t : Int} {tl : List (Str × V)} {na : Addr} {nodes : List Nat} {Q : VK} {X : XK} (N : NetSt C H0 H p ps.length (netE ps A) r tl) (F : Full (netE ps A) (2 * ps.length) (2 * ps.length + 1) r t) (hna : H na = some (.lst (nodes.map vN)))
    (hp : ∀ x ∈ ps, 0 ≤ x) (hA : ArcsIn ps.length A) (hl : ps.length ≤ 100) (hAl : A.length ≤ 1500) (hnd : nodes.Nodup) (hlt : ∀ k ∈ nodes, k < 2 * ps.length)
    (k1 : ∀ H', Same H H' → (¬ ∃ S, Opt ps A t S ∧ ∀ k ∈ nodes, S k = true) → Q .non H')
    (k2 : ∀ H' q T, Same H H' → (Opt ps A t T ∧ (∀ k ∈ nodes, T k = true) ∧ ∀ S, Opt ps A t S → (∀ k ∈ nodes, S k = true) → ∀ k, k < 2 * ps.length → T k = true → S k = true) → H' q = some (.lst (lmap (2 * ps.length) fun v => V.bl (T v))) → Q (.ref q) H') : spClo C [.ref p, .ref na] H Q X :=
  ⟨H0, p, ps.length, netE ps A, r, tl, na, nodes, rfl, N, hna, by omega, by rw [netE_length]; omega, netE_in hA, List.nodup_cons.mpr ⟨fun z => by have := hlt _ z; omega, hnd⟩, hlt, F.pos,
    fun H' T s R h => k1 H' s (F.reach_none hp hA R hlt h), fun H' q T s _ R h e => k2 H' q T s (F.reach_some hp hA R hlt h) e⟩

theorem sc_may_be : FnScope ["net", "at", "value", "inside"] ["net", "at", "value"] (defScope s_may_be) := ⟨rfl, rfl, rfl, by decide +kernel, rfl, by decide +kernel, by decide +kernel⟩

theorem ok_may_be {P : Program} {w : World} {K : PySem.W.Frag} {mg : Str → Option Value} {base : Heap} (T : Txt K mg) (F_Net_closure : Met P w K mg base 1 (ga K "Net") "closure" (spClo (ga K "Net")) []) : Cal P w K mg base 2 "may_be" (spMay (ga K "Net")) [] := by
  refine cal_of (D := d_may_be) (T.says.def_ 5 rfl) T.g_may_be (fun _ _ _ _ _ _ us hl => match us, hl with | [_, _, _], _ => rfl) sc_may_be (fun vs H Q E h => ?_) (fun cdv A outer s H vs Q E hr h => ?_)
  · obtain ⟨_, p, _, _, _, _, _, iv, v, _, rfl, _⟩ := h
    rfl
  have hu := hu_of hr
  refine ⟨_, (pss_cons (ps_if (pt_cmpR op_eq (pv 2) pe_int (nomark _)) (pss_one (ps_ret (pe_cmpR op_notN (pe_mt F_Net_closure hr (by decide) (pv 0) (pa_cons (pe_lst (pa_cons (pv 1) (pa_cons (pe_op op_add (pe_fld (pv 0) (by rfl)) (pv 1)) pa_nil))) pa_nil)) pe_non (nomark _)))) pss_nil)
    (pss_cons (ps_if (pt_cmpR op_eq (pv 2) pe_int (nomark _)) (pss_cons (ps_set (i := 3) sc_may_be.nd rfl (Or.inl rfl) (pe_mt F_Net_closure hr (by decide) (pv 0) (pa_cons (pe_lst (pa_cons (pv 1) pa_nil)) pa_nil)))
    (pss_one (ps_ret (pe_and (pe_cmpR op_notN (pv 3) pe_non (nomark _)) (pe_one (pe_not (pe_ix ix_list (pv 3) (pe_op op_add (pe_fld (pv 0) (by rfl)) (pv 1)) (fun _ _ => rfl)))))))) pss_nil)
    (pss_cons (ps_set (i := 3) sc_may_be.nd rfl (Or.inl rfl) (pe_mt F_Net_closure hr (by decide) (pv 0) (pa_cons (pe_lst (pa_cons (pe_op op_add (pe_fld (pv 0) (by rfl)) (pv 1)) pa_nil)) pa_nil)))
    (pss_one (ps_ret (pe_and (pe_cmpR op_notN (pv 3) pe_non (nomark _)) (pe_one (pe_not (pe_ix ix_list (pv 3) (pv 1) (fun _ _ => rfl)))))))))), ?_⟩
  obtain ⟨H0, p, ps, A, r, t, c, _, v, i, rfl, N, F, rfl, hi, h0, h2, hp, hA, hl, hAl, k⟩ := h
  obtain ⟨s0, dx, hl', rl, el, ls, G, D⟩ := id N
  have cn : ((ps.length : Int) + (i : Int)) = ((ps.length + i : Nat) : Int) := by omega
  -- if value == 1
  refine ⟨_, rfl, rfl, _, rfl, ?_⟩
  refine ite2 (fun c1 => ?_) (fun c1 => ?_)
  · have e1 : v = 1 := by
      have := of_decide_eq_true c1
      injection this
    subst e1
    refine ⟨_, rfl, p, dx, _, rfl, G.ins, rfl, _, rfl, _, rfl, _, _, _, _, _, rfl, G.ins, T.c_Net, T.n_Net_many, nf_many, _, rfl, _, _, rfl, rfl, by show 2 ≤ sizeLine; decide, fun na hna => ?_⟩
    have hnl : upd H na (.lst [V.int (i : Int), V.int ((ps.length : Int) + (i : Int))]) na = some (.lst ([i, ps.length + i].map vN)) := by rw [upd_same, cn]; rfl
    dsimp only [tNil]
    refine spClo_of (N.grow (Same.new hna)) F (nodes := [i, ps.length + i]) hnl hp hA hl hAl (List.nodup_cons.mpr ⟨by intro z; have := List.mem_singleton.mp z; omega, by simp⟩) (by intro k hk; simp at hk; omega) (fun H' s1 hno => ?_) (fun H' q TT s1 hT hq => ?_)
    · refine ⟨rfl, ?_⟩
      refine k _ false ((Same.new hna).trans s1) ⟨(fun z => by cases z), fun z => absurd ?_ hno⟩
      obtain ⟨S, hS, z1, z2⟩ := z
      exact ⟨S, hS, by intro k hk; simp at hk; rcases hk with rfl | rfl; exact z1; exact z2⟩
    · refine ⟨rfl, ?_⟩
      refine k _ true ((Same.new hna).trans s1) ⟨fun _ => ⟨TT, hT.1, hT.2.1 i (by simp), hT.2.1 _ (by simp)⟩, fun _ => rfl⟩
  have n1 : v ≠ 1 := fun z => c1 (decide_eq_true (by rw [z]))
  -- if value == 0
  refine ⟨_, rfl, rfl, _, rfl, ?_⟩
  refine ite2 (fun c2 => ?_) (fun c2 => ?_)
  · have e0 : v = 0 := by
      have := of_decide_eq_true c2
      injection this
    subst e0
    refine ⟨_, rfl, p, dx, _, rfl, G.ins, rfl, _, rfl, by show 1 ≤ sizeLine; decide, fun na hna => ?_⟩
    dsimp only [tNil]
    refine spClo_of (N.grow (Same.new hna)) F (nodes := [i]) (by rw [upd_same]; rfl) hp hA hl hAl (by simp) (by intro k hk; simp at hk; omega) (fun H' s1 hno => ?_) (fun H' q TT s1 hT hq => ?_)
    · refine ⟨_, rfl, rfl, false, rfl, iteF ?_⟩
      refine k _ false ((Same.new hna).trans s1) ⟨(fun z => by cases z), fun z => absurd ?_ hno⟩
      obtain ⟨S, hS, z1, z2⟩ := z
      exact ⟨S, hS, by intro k hk; simp at hk; rw [hk]; exact z1⟩
    · have s2 := (Same.new hna).trans s1
      have G2 := G.same s2
      refine ⟨_, rfl, rfl, true, rfl, iteT ⟨_, rfl, _, rfl, _, _, _, _, _, rfl, G2.ins, T.c_Net, T.n_Net_many, nf_many, _, rfl, _, _, rfl, rfl, _, _, _, _, rfl, rfl, SqL.of (hq), (by rw [cn]; exact atI_lmap (by omega)), _, rfl, ?_⟩⟩
      refine k _ _ s2 ⟨fun z => ⟨TT, hT.1, hT.2.1 i (by simp), ?_⟩, fun z => ?_⟩
      · cases e : TT (ps.length + i) with
        | false => rfl
        | true => rw [e] at z; cases z
      · obtain ⟨S, hS, z1, z2⟩ := z
        cases e : TT (ps.length + i) with
        | false => rfl
        | true =>
          have := hT.2.2 S hS (by intro k hk; simp at hk; rw [hk]; exact z1) _ (by omega) e
          rw [z2] at this
          cases this
  have n0 : v ≠ 0 := fun z => c2 (decide_eq_true (by rw [z]))
  have e2 : v = 2 := by omega
  subst e2
  refine ⟨_, rfl, p, dx, _, rfl, G.ins, rfl, _, rfl, _, _, _, _, _, rfl, G.ins, T.c_Net, T.n_Net_many, nf_many, _, rfl, _, _, rfl, rfl, by show 1 ≤ sizeLine; decide, fun na hna => ?_⟩
  dsimp only [tNil]
  have hnl : upd H na (.lst [V.int ((ps.length : Int) + (i : Int))]) na = some (.lst ([ps.length + i].map vN)) := by rw [upd_same, cn]; rfl
  refine spClo_of (N.grow (Same.new hna)) F (nodes := [ps.length + i]) hnl hp hA hl hAl (by simp) (by intro k hk; simp at hk; omega) (fun H' s1 hno => ?_) (fun H' q TT s1 hT hq => ?_)
  · refine ⟨_, rfl, rfl, false, rfl, iteF ?_⟩
    refine k _ false ((Same.new hna).trans s1) ⟨(fun z => by cases z), fun z => absurd ?_ hno⟩
    obtain ⟨S, hS, z1, z2⟩ := z
    exact ⟨S, hS, by intro k hk; simp at hk; rw [hk]; exact z2⟩
  · have s2 := (Same.new hna).trans s1
    refine ⟨_, rfl, rfl, true, rfl, iteT ⟨_, rfl, _, rfl, _, _, _, _, rfl, rfl, SqL.of hq, atI_lmap (by omega), _, rfl, ?_⟩⟩
    refine k _ _ s2 ⟨fun z => ⟨TT, hT.1, ?_, hT.2.1 _ (by simp)⟩, fun z => ?_⟩
    · cases e : TT i with
      | false => rfl
      | true => rw [e] at z; cases z
    · obtain ⟨S, hS, z1, z2⟩ := z
      cases e : TT i with
      | false => rfl
      | true =>
        have := hT.2.2 S hS (by intro k hk; simp at hk; rw [hk]; exact z2) _ (by omega) e
        rw [z1] at this
        cases this
end HW

set_option Elab.async false
set_option linter.all false
set_option maxRecDepth 100000
set_option maxHeartbeats 4000000
set_option pp.maxSteps 400
set_option pp.fieldNotation false
namespace HW
open PySem PySem.Spec PyProof.Rows L2 He
open C8 (Cal Met Mak pe_c pe_mk pe_mt pe_mt0 pe_gc InsC call_isC)
open HP
/-! ### dicts by names -/
def dS (f : Str → V) (l : List Str) : List (Key × V) := l.map fun a => ((Sum.inr a : Key), f a)
theorem valS_mem {f : Str → V} {a : Str} : ∀ {l : List Str}, a ∈ l → valV (dS f l) (Sum.inr a : Key) = some (f a)
  | [], h => by cases h
  | b :: l, h => by
    by_cases e : b = a
    · subst e
      exact valV_pos (p := ((Sum.inr b : Key), f b)) rfl
    · have h1 : valV (dS f (b :: l)) (Sum.inr a : Key) = valV (dS f l) (Sum.inr a : Key) := valV_neg (p := ((Sum.inr b : Key), f b)) (fun z => e (Sum.inr.inj z))
      rw [h1]
      rcases List.mem_cons.mp h with q | q
      · exact absurd q.symm e
      · exact valS_mem q
theorem valS_not {f : Str → V} {a : Str} : ∀ {l : List Str}, a ∉ l → valV (dS f l) (Sum.inr a : Key) = none
  | [], _ => rfl
  | b :: l, h => by
    have e : b ≠ a := fun z => h (List.mem_cons.mpr (.inl z.symm))
    have h1 : valV (dS f (b :: l)) (Sum.inr a : Key) = valV (dS f l) (Sum.inr a : Key) := valV_neg (p := ((Sum.inr b : Key), f b)) (fun z => e (Sum.inr.inj z))
    rw [h1]
    exact valS_not fun z => h (List.mem_cons.mpr (.inr z))
theorem dS_length {f : Str → V} {l : List Str} : (dS f l).length = l.length := List.length_map _
theorem dS_congr {f g : Str → V} {l : List Str} (h : ∀ a ∈ l, f a = g a) : dS f l = dS g l := by
  unfold dS
  exact List.map_congr_left fun a ha => by rw [h a ha]
theorem putS_new {f : Str → V} {a : Str} {l : List Str} (h : a ∉ l) : putK (dS f l) (Sum.inr a : Key) (f a) = dS f (l ++ [a]) := by
  unfold putK
  rw [valV_any, valS_not h]
  unfold dS
  rw [List.map_append]
  rfl
theorem dget_in {H : Hp} {p : Addr} {f : Str → V} {l : List Str} {x : Str} (e : Rd H p (.dK (dS f l))) (h : x ∈ l) : DGet H p (.str x) (some (f x)) := .inl ⟨_, Sum.inr x, e, rfl, (valS_mem h).symm⟩
theorem dget_out {H : Hp} {p : Addr} {f : Str → V} {l : List Str} {x : Str} (e : Rd H p (.dK (dS f l))) (h : x ∉ l) : DGet H p (.str x) none := .inl ⟨_, Sum.inr x, e, rfl, (valS_not h).symm⟩
theorem dput_new {H : Hp} {p : Addr} {f : Str → V} {l : List Str} {x : Str} (e : H p = some (.dK (dS f l))) (h : x ∉ l) (hl : l.length < 1000) : DPut H p (.str x) (f x) (upd H p (.dK (dS f (l ++ [x])))) :=
  .inl ⟨_, Sum.inr x, e, rfl, by rw [dS_length]; exact small_lt (by omega), by rw [putS_new h]⟩
theorem nodup_take_get {α : Type} {l : List α} (h : l.Nodup) {i : Nat} {a : α} (hi : l[i]? = some a) : a ∉ l.take i := fun z => by
  obtain ⟨j, hj⟩ := List.getElem?_of_mem z
  have hj1 : j < i := by
    have := lt_get hj
    rw [List.length_take] at this
    omega
  rw [List.getElem?_take_of_lt hj1] at hj
  have h1 := List.getElem?_eq_some_iff.mp hi
  have h2 := List.getElem?_eq_some_iff.mp hj
  obtain ⟨l1, e1⟩ := h1
  obtain ⟨l2, e2⟩ := h2
  have := hnd_inj h l1 l2 (e1.trans e2.symm)
  omega
theorem str_get {l : List Str} {i : Nat} {v : V} (h : (l.map vS)[i]? = some v) : ∃ a, l[i]? = some a ∧ v = .str a := get_map h
/-! ### tuple keys -/
def keyT (q : Tie) : List Key := (pairS q.1 q.2).map Sum.inr
def dT (l : List Tie) : List (List Key × V) := l.map fun q => (keyT q, V.bl true)
theorem keyT_vals (q : Tie) : (keyT q).map kV = (pairS q.1 q.2).map V.str := by
  unfold keyT
  rw [List.map_map]
  rfl
theorem keyT_inj {p q : Tie} (h : keyT p = keyT q) : p = q ∨ p = (q.2, q.1) := by
  unfold keyT at h
  have h : pairS p.1 p.2 = pairS q.1 q.2 := List.map_inj_right (fun x y z => Sum.inr.inj z) |>.mp h
  rcases pairS_inj h with ⟨h1, h2⟩ | ⟨h1, h2⟩
  · exact .inl (Prod.ext h1 h2)
  · exact .inr (Prod.ext h1 h2)
theorem valT_not {q : Tie} : ∀ {l : List Tie}, (∀ p ∈ l, keyT p ≠ keyT q) → valV (dT l) (keyT q) = none
  | [], _ => rfl
  | p :: l, h => by
    have h1 : valV (dT (p :: l)) (keyT q) = valV (dT l) (keyT q) := valV_neg (p := (keyT p, V.bl true)) (h p (List.mem_cons_self ..))
    rw [h1]
    exact valT_not fun x hx => h x (List.mem_cons_of_mem _ hx)
theorem putT_new {q : Tie} {l : List Tie} (h : ∀ p ∈ l, keyT p ≠ keyT q) : putK (dT l) (keyT q) (V.bl true) = dT (l ++ [q]) := by
  unfold putK
  rw [valV_any, valT_not h]
  unfold dT
  rw [List.map_append]
  rfl
theorem ties_fresh {N : List Str} {ties : List Tie} (T : TiesOk N ties) {i : Nat} {q : Tie} (hq : ties[i]? = some q) : ∀ p ∈ ties.take i, keyT p ≠ keyT q := fun p hp e => by
  have hpm := List.mem_of_mem_take hp
  rcases keyT_inj e with z | z
  · exact nodup_take_get T.nodup hq (z ▸ hp)
  · subst z
    exact T.noswap q (List.mem_of_getElem? hq) hpm
theorem partL_le {N : List Str} {ties : List Tie} (h : TiesOk N ties) (hN : N.Nodup) (a : Str) : (partL ties a).length ≤ N.length := by
  have h1 : (partL ties a).Perm (N.filter (adjOf ties a)) := (List.perm_ext_iff_of_nodup (partL_nodup h a) (hN.filter _)).mpr fun b => by
    rw [mem_partL, List.mem_filter]
    refine ⟨fun q => ⟨?_, q⟩, fun q => q.2⟩
    rcases adjOf_iff.mp q with z | z
    · exact (h.mem _ z).2.1
    · exact (h.mem _ z).1
  rw [h1.length_eq]
  exact List.length_filter_le _ _
def spCheckPlaces : Sp := fun vs H Q _ => ∃ (pp : Addr) (places : List Str), vs = [.ref pp] ∧ H pp = some (.tup (places.map vS)) ∧ 1 ≤ places.length ∧ places.length ≤ 40 ∧ places.Nodup ∧ (∀ a ∈ places, NameOk a) ∧ ∀ H', Same H H' → Q .non H'

theorem sc_check_places : FnScope ["places", "known", "at", "place"] ["places"] (defScope s_check_places) := ⟨rfl, rfl, rfl, by decide +kernel, rfl, by decide +kernel, by decide +kernel⟩

theorem ok_check_places {P : Program} {w : World} {K : PySem.W.Frag} {mg : Str → Option Value} {base : Heap} (T : Txt K mg) (F_is_name : Cal P w K mg base 1 "is_name" spIsName []) : Cal P w K mg base 2 "check_places" (spCheckPlaces) [] := by
  refine cal_of (D := d_check_places) (T.says.def_ 10 rfl) T.g_check_places (fun _ _ _ _ _ _ us hl => match us, hl with | [_], _ => rfl) sc_check_places (fun vs H Q E h => ?_) (fun cdv A outer s H vs Q E hr h => ?_)
  · obtain ⟨pp, _, rfl, _⟩ := h
    rfl
  have hu := hu_of hr
  refine ⟨_, (pss_cons (ps_if (PW.pt (pw_or (pt_not (pt_val (pe_callB call_isi (by rfl) T.f_isinstance (by decide +kernel) (pa_cons (pv 0) (pa_cons (pe_ty (n := "tuple") (by rfl) T.f_tuple (by decide +kernel)) pa_nil))))) (pw_or (pt_cmpR op_lt (pe_callB call_len_seq (by rfl) T.f_len (by decide +kernel) (pa_cons (pv 0) pa_nil)) pe_int (nomark _)) (pw_or1 (pt_cmpR op_gt (pe_callB call_len_seq (by rfl) T.f_len (by decide +kernel) (pa_cons (pv 0) pa_nil)) (pe_gc rfl T.k_MOST_PLACES) (nomark _)))))) (pss_one (ps_never)) pss_nil)
    (pss_cons (ps_set (i := 1) sc_check_places.nd rfl (Or.inl rfl) pe_dnewK)
    (pss_one (ps_for PassesOwn.never rfl (pi_enumT (by rfl) T.f_enumerate (pa_cons (pv 0) pa_nil)) (pg_tup rfl (pgs_cons (pg_name (i := 2) sc_check_places.nd rfl (Or.inl rfl)) (pgs_cons (pg_name (i := 3) sc_check_places.nd rfl (Or.inl rfl)) pgs_nil))) (pss_cons (ps_if (PW.pt (pw_or (pt_not (pt_val (pe_c F_is_name hr (by decide) rfl (pa_cons (pv 3) pa_nil)))) (pw_or1 (pt_cmp (pc_din hu (pv 3) (pv 1)) rfl)))) (pss_one (ps_never)) pss_nil)
    (pss_one (ps_dput hu (pv 1) (pv 3) pe_bl rfl))))))), ?_⟩
  obtain ⟨pp, places, rfl, hpp, h1, h40, hnd, hok, k⟩ := h
  have hlen : (places.map vS).length = places.length := List.length_map _
  refine ⟨_, rfl, _, _, _, _, true, rfl, .ty _, .base (.tup hpp), kit_ty (by decide +kernel), ?_⟩
  refine ⟨_, rfl, iteF ?_⟩
  refine ⟨_, rfl, _, _, rfl, .inr (SqT.of hpp), ?_⟩
  refine ⟨_, _, rfl, rfl, _, rfl, ?_⟩
  rw [decide_eq_false (show ¬ (((places.map vS).length : Int) < 1) by rw [hlen]; omega)]
  refine iteF ⟨_, rfl, _, _, rfl, .inr (SqT.of hpp), _, _, rfl, rfl, _, rfl, ?_⟩
  rw [decide_eq_false (show ¬ ((40 : Int) < ((places.map vS).length : Int)) by rw [hlen]; omega)]
  refine iteF ?_
  intro kp hkp
  have s1 : Same H (upd H kp (.dK [])) := Same.new hkp
  have hk1 : upd H kp (.dK []) kp = some (.dK (dS (fun _ => V.bl true) [])) := upd_same
  generalize upd H kp (.dK []) = H1 at s1 hk1 ⊢
  refine ⟨_, rfl, pp, _, rfl, SqT.of (s1 _ _ hpp), ?_⟩
  refine for_it (walk_enumT (K := K) (a := pp) (xs := places.map vS)) (fun i σ H' => ∃ ao po, σ = [some (.ref pp), some (.ref kp), ao, po] ∧ Same H H' ∧ H' kp = some (.dK (dS (fun _ => V.bl true) (places.take i))))
    ⟨none, none, rfl, s1, hk1⟩ (fun i σ H' _ ⟨_, _, _, s, _⟩ => SqT.of (s _ _ hpp)) ?_ ?_
  · rintro i x σ H' H'' hi ⟨ao, po, rfl, s2, hk2⟩ ⟨tp, x1, x2, rfl, htp, rfl, e1, e2⟩
    cases e1
    obtain ⟨a, ha, rfl⟩ := str_get e2
    have hne : kp ≠ tp := ne_of_none hk2 htp
    refine ⟨tp, _, rfl, .inl (.inl upd_same), rfl, _, _, rfl, _, _, rfl, rfl, ?_⟩
    have s3 : Same H (upd H' tp (.tup [V.int (i : Nat), V.str a])) := s2.trans (Same.new htp)
    have hk3 : upd H' tp (.tup [V.int (i : Nat), V.str a]) kp = some (.dK (dS (fun _ => V.bl true) (places.take i))) := by rw [upd_ne hne]; exact hk2
    generalize upd H' tp (.tup [V.int (i : Nat), V.str a]) = H3 at s3 hk3 ⊢
    refine ⟨_, rfl, a, rfl, hok a (List.mem_of_getElem? ha), fun H4 s4 => ?_⟩
    refine ⟨_, rfl, iteF ?_⟩
    refine ⟨_, rfl, _, rfl, kp, none, rfl, dget_out (.inl (s4 _ _ hk3)) (nodup_take_get hnd ha), _, rfl, iteF ?_⟩
    refine ⟨_, rfl, _, rfl, kp, _, rfl, dput_new (f := fun _ => V.bl true) (s4 _ _ hk3) (nodup_take_get hnd ha) (by rw [List.length_take]; omega), ?_⟩
    refine ⟨_, _, rfl, (s3.trans s4).mut hkp, ?_⟩
    rw [upd_same, take_succ_get ha]
  · rintro σ H' ⟨ao, po, rfl, s2, _⟩
    exact k _ s2
def spIsTie : Sp := fun vs H Q _ => ∃ (kp tp : Addr) (places : List Str) (a b : Str), vs = [.ref kp, .ref tp] ∧ H kp = some (.dK (dS (fun _ => V.bl true) places)) ∧ H tp = some (.tup [.str a, .str b]) ∧ a ∈ places ∧ b ∈ places ∧ a ≠ b ∧ ∀ H', Same H H' → Q (.bl true) H'

theorem sc_is_tie : FnScope ["known", "tie", "place"] ["known", "tie"] (defScope s_is_tie) := ⟨rfl, rfl, rfl, by decide +kernel, rfl, by decide +kernel, by decide +kernel⟩

theorem ok_is_tie {P : Program} {w : World} {K : PySem.W.Frag} {mg : Str → Option Value} {base : Heap} (T : Txt K mg)  : Cal P w K mg base 1 "is_tie" (spIsTie) [] := by
  refine cal_of (D := d_is_tie) (T.says.def_ 11 rfl) T.g_is_tie (fun _ _ _ _ _ _ us hl => match us, hl with | [_, _], _ => rfl) sc_is_tie (fun vs H Q E h => ?_) (fun cdv A outer s H vs Q E hr h => ?_)
  · obtain ⟨kp, tp, _, _, _, rfl, _⟩ := h
    rfl
  have hu := hu_of hr
  refine ⟨_, (pss_cons (ps_if (PW.pt (pw_or (pt_not (pt_val (pe_callB call_isi (by rfl) T.f_isinstance (by decide +kernel) (pa_cons (pv 1) (pa_cons (pe_ty (n := "tuple") (by rfl) T.f_tuple (by decide +kernel)) pa_nil))))) (pw_or1 (pt_cmpR op_ne (pe_callB call_len_seq (by rfl) T.f_len (by decide +kernel) (pa_cons (pv 1) pa_nil)) pe_int (nomark _))))) (pss_one (ps_ret pe_bl)) pss_nil)
    (C8.pss_cut (ps_for PassesOwn.never rfl (pi_tup (pv 1)) (pg_name (i := 2) sc_is_tie.nd rfl (Or.inl rfl)) (pss_one (ps_if (PW.pt (pw_or (pt_not (pt_val (pe_callB call_isi (by rfl) T.f_isinstance (by decide +kernel) (pa_cons (pv 2) (pa_cons (pe_ty (n := "str") (by rfl) T.f_str (by decide +kernel)) pa_nil))))) (pw_or1 (pt_cmp (pc_dnotin hu (pv 2) (pv 0)) rfl)))) (pss_one (ps_ret pe_bl)) pss_nil)))
    (pss_one (ps_ret (pe_cmpR op_ne (pe_ix ix_tup (pv 1) pe_int (fun _ _ => rfl)) (pe_ix ix_tup (pv 1) pe_int (fun _ _ => rfl)) (nomark _)))))), ?_⟩
  obtain ⟨kp, tp, places, a, b, rfl, hk, ht, ha, hb, hab, k⟩ := h
  refine ⟨_, rfl, _, _, _, _, true, rfl, .ty _, .base (.tup ht), kit_ty (by decide +kernel), ?_⟩
  refine ⟨_, rfl, iteF ?_⟩
  refine ⟨_, rfl, _, _, rfl, .inr (SqT.of ht), rfl, _, rfl, iteF ?_⟩
  refine ⟨fun σ H' => ∃ po, σ = [some (.ref kp), some (.ref tp), po] ∧ H' = H, ?_, ?_⟩
  · refine ⟨_, rfl, tp, rfl, ⟨_, SqT.of ht⟩, ?_⟩
    refine for_tup (K := K) (a := tp) (xs := [.str a, .str b]) (fun i σ H' => ∃ po, σ = [some (.ref kp), some (.ref tp), po] ∧ H' = H) ⟨none, rfl, rfl⟩ (fun i σ H' _ ⟨_, _, e⟩ => e ▸ SqT.of ht) ?_ ?_
    · rintro i x σ H' hx ⟨po, rfl, rfl⟩
      obtain ⟨z, rfl, hz⟩ : ∃ z, x = .str z ∧ z ∈ places := by
        match i, hx with
        | 0, hx => exact ⟨a, (Option.some.inj hx).symm, ha⟩
        | 1, hx => exact ⟨b, (Option.some.inj hx).symm, hb⟩
        | n + 2, hx => simp at hx
      refine ⟨_, rfl, _, _, _, _, true, rfl, .ty _, .base (.str _), kit_ty (by decide +kernel), ?_⟩
      refine ⟨_, rfl, iteF ?_⟩
      refine ⟨_, rfl, _, rfl, kp, _, rfl, dget_in (.inl hk) hz, _, rfl, iteF ?_⟩
      exact ⟨_, rfl, rfl⟩
    · rintro σ H' ⟨po, rfl, rfl⟩
      exact ⟨po, rfl, rfl⟩
  rintro σ H' ⟨po, rfl, rfl⟩
  refine ⟨_, rfl, _, _, _, _, rfl, rfl, SqT.of ht, rfl, _, rfl, _, _, _, _, rfl, rfl, SqT.of ht, rfl, rfl, ?_⟩
  have e : (!decide (V.str a = V.str b)) = true := by
    rw [decide_eq_false (fun z => hab (by injection z))]; rfl
  rw [e]
  exact k _ (Same.refl _)
def spCheckTies : Sp := fun vs H Q _ => ∃ (pp pt : Addr) (places : List Str) (ties : List Tie), vs = [.ref pp, .ref pt] ∧ H pp = some (.tup (places.map vS)) ∧ LstT tieV H pt ties ∧ places.Nodup ∧ places.length ≤ 40 ∧ TiesOk places ties ∧ ∀ H', Same H H' → Q .non H'

theorem sc_check_ties : FnScope ["places", "ties", "known", "seen", "at", "tie", "place"] ["places", "ties"] (defScope s_check_ties) := ⟨rfl, rfl, rfl, by decide +kernel, rfl, by decide +kernel, by decide +kernel⟩

theorem ok_check_ties {P : Program} {w : World} {K : PySem.W.Frag} {mg : Str → Option Value} {base : Heap} (T : Txt K mg) (F_is_tie : Cal P w K mg base 1 "is_tie" spIsTie []) (F_pair_of : Cal P w K mg base 1 "pair_of" spPairOf []) : Cal P w K mg base 2 "check_ties" (spCheckTies) [] := by
  refine cal_of (D := d_check_ties) (T.says.def_ 12 rfl) T.g_check_ties (fun _ _ _ _ _ _ us hl => match us, hl with | [_, _], _ => rfl) sc_check_ties (fun vs H Q E h => ?_) (fun cdv A outer s H vs Q E hr h => ?_)
  · obtain ⟨pp, pt, _, _, rfl, _⟩ := h
    rfl
  have hu := hu_of hr
  refine ⟨_, (pss_cons (ps_if (PW.pt (pw_or (pt_not (pt_val (pe_callB call_isi (by rfl) T.f_isinstance (by decide +kernel) (pa_cons (pv 1) (pa_cons (pe_ty (n := "list") (by rfl) T.f_list (by decide +kernel)) pa_nil))))) (pw_or1 (pt_cmpR op_gt (pe_callB call_len_seq (by rfl) T.f_len (by decide +kernel) (pa_cons (pv 1) pa_nil)) (pe_gc rfl T.k_MOST_TIES) (nomark _))))) (pss_one (ps_never)) pss_nil)
    (pss_cons (ps_setDc (i := 2) rfl sc_check_ties.nd rfl rfl (sw_trueD rfl rfl rfl (by decide +kernel)) (pi_tup (pv 0)) (blkOk_by (N := ["places", "ties", "known", "seen", "at", "tie", "place"]) (sc := defScope s_check_ties) (own := [("place", 6)]) (by decide +kernel)) (fun _ _ _ _ _ => (pg_name (i := 6) sc_check_ties.nd rfl (Or.inl rfl))) (fun _ _ _ _ _ => pts_nil) (fun _ _ _ _ _ => (pv 6)) (fun _ _ _ _ _ => pe_bl))
    (pss_cons (ps_set (i := 3) sc_check_ties.nd rfl (Or.inl rfl) pe_dnewT)
    (pss_one (ps_for PassesOwn.never rfl (pi_enum (by rfl) T.f_enumerate (pa_cons (pv 1) pa_nil)) (pg_tup rfl (pgs_cons (pg_name (i := 4) sc_check_ties.nd rfl (Or.inl rfl)) (pgs_cons (pg_name (i := 5) sc_check_ties.nd rfl (Or.inl rfl)) pgs_nil))) (pss_cons (ps_if (PW.pt (pw_or (pt_not (pt_val (pe_c F_is_tie hr (by decide) rfl (pa_cons (pv 2) (pa_cons (pv 5) pa_nil))))) (pw_or1 (pt_cmp (pc_din hu (pe_c F_pair_of hr (by decide) rfl (pa_cons (pe_ix ix_tup (pv 5) pe_int (fun _ _ => rfl)) (pa_cons (pe_ix ix_tup (pv 5) pe_int (fun _ _ => rfl)) pa_nil))) (pv 3)) rfl)))) (pss_one (ps_never)) pss_nil)
    (pss_one (ps_dput hu (pv 3) (pe_c F_pair_of hr (by decide) rfl (pa_cons (pe_ix ix_tup (pv 5) pe_int (fun _ _ => rfl)) (pa_cons (pe_ix ix_tup (pv 5) pe_int (fun _ _ => rfl)) pa_nil))) pe_bl rfl)))))))), ?_⟩
  obtain ⟨pp, pt, places, ties, rfl, hpp, ⟨ts, hpt, hts⟩, hnd, h40, TO, k⟩ := h
  have hlen : (ts.map vR).length = ties.length := by rw [List.length_map]; exact hts.1
  refine ⟨_, rfl, _, _, _, _, true, rfl, .ty _, .base (.lst hpt), kit_ty (by decide +kernel), ?_⟩
  refine ⟨_, rfl, iteF ?_⟩
  refine ⟨_, rfl, _, _, rfl, .inl (SqL.of hpt), _, _, rfl, rfl, _, rfl, ?_⟩
  rw [decide_eq_false (show ¬ ((400 : Int) < ((ts.map vR).length : Int)) by rw [hlen]; have := TO.len; omega)]
  refine iteF ?_
  -- known = {place: True for place in places}
  refine ⟨_, rfl, pp, rfl, ⟨_, SqT.of hpp⟩, fun kp hkp => ?_⟩
  refine dc_it (walk_tup (K := K) (a := pp) (xs := places.map vS)) (fun i H' => H' = upd H kp (.dK (dS (fun _ => V.bl true) (places.take i)))) rfl (fun i H' _ e => by
      subst e
      exact SqT.of ((Same.new hkp) _ _ hpp)) ?_ ?_
  · rintro i x H1 H2 hi rfl ⟨rfl, hx⟩
    obtain ⟨a, ha, rfl⟩ := str_get hx
    refine ⟨rfl, _, rfl, _, Sum.inr a, rfl, upd_same, by rw [dS_length, List.length_take]; exact small_lt (by omega), ?_⟩
    rw [upd_upd, putS_new (f := fun _ => V.bl true) (nodup_take_get hnd ha), take_succ_get ha]
  rintro H1 rfl
  have hl1 : (places.map vS).length = places.length := List.length_map _
  rw [hl1, List.take_length]
  have s1 : Same H (upd H kp (.dK (dS (fun _ => V.bl true) places))) := Same.new hkp
  have hk1 : upd H kp (.dK (dS (fun _ => V.bl true) places)) kp = some (.dK (dS (fun _ => V.bl true) places)) := upd_same
  generalize upd H kp (.dK (dS (fun _ => V.bl true) places)) = H1 at s1 hk1 ⊢
  -- seen = {}
  intro sp hsp
  have hks : kp ≠ sp := ne_of_none hk1 hsp
  have hsp0 := s1.free hsp
  have s2 : Same H (upd H1 sp (.dT [])) := s1.trans (Same.new hsp)
  have hk2 : upd H1 sp (.dT []) kp = some (.dK (dS (fun _ => V.bl true) places)) := by rw [upd_ne hks]; exact hk1
  have hs2 : upd H1 sp (.dT []) sp = some (.dT (dT [])) := upd_same
  generalize upd H1 sp (.dT []) = H2 at s2 hk2 hs2 ⊢
  -- for at, tie in enumerate(ties)
  refine ⟨_, rfl, pt, _, rfl, SqL.of (s2 _ _ hpt), ?_⟩
  refine for_it (walk_enum (K := K) (a := pt) (xs := ts.map vR)) (fun i σ H' => ∃ ao to po, σ = [some (.ref pp), some (.ref pt), some (.ref kp), some (.ref sp), ao, to, po] ∧ Same H H' ∧ H' kp = some (.dK (dS (fun _ => V.bl true) places)) ∧ H' sp = some (.dT (dT (ties.take i))))
    ⟨none, none, none, rfl, s2, hk2, hs2⟩ (fun i σ H' _ ⟨_, _, _, _, s, _⟩ => SqL.of (s _ _ hpt)) ?_ ?_
  · rintro i x σ H' H'' hi ⟨ao, to, po, rfl, s3, hk3, hs3⟩ ⟨tp, x1, x2, rfl, htp, rfl, e1, e2⟩
    cases e1
    obtain ⟨t, q, _, hq, rfl, htq⟩ := hts.get e2
    have hm := TO.mem q (List.mem_of_getElem? hq)
    refine ⟨tp, _, rfl, .inl (.inl upd_same), rfl, _, _, rfl, _, _, rfl, rfl, ?_⟩
    have s4 : Same H (upd H' tp (.tup [V.int (i : Nat), V.ref t])) := s3.trans (Same.new htp)
    have hk4 : upd H' tp (.tup [V.int (i : Nat), V.ref t]) kp = some (.dK (dS (fun _ => V.bl true) places)) := by rw [upd_ne (ne_of_none hk3 htp)]; exact hk3
    have hs4 : upd H' tp (.tup [V.int (i : Nat), V.ref t]) sp = some (.dT (dT (ties.take i))) := by rw [upd_ne (ne_of_none hs3 htp)]; exact hs3
    generalize upd H' tp (.tup [V.int (i : Nat), V.ref t]) = H4 at s4 hk4 hs4 ⊢
    -- is_tie(known, tie)
    refine ⟨_, rfl, _, rfl, kp, t, places, q.1, q.2, rfl, hk4, s4 _ _ htq, hm.1, hm.2.1, hm.2.2, fun H5 s5 => ?_⟩
    have t5 := (s4.trans s5) _ _ htq
    have hfr := ties_fresh TO hq
    refine ⟨_, rfl, iteF ?_⟩
    -- pair_of(tie[0], tie[1]) in seen
    refine ⟨_, rfl, _, _, _, _, rfl, rfl, SqT.of t5, rfl, _, rfl, _, _, _, _, rfl, rfl, SqT.of t5, rfl, q.1, q.2, rfl, fun u hu => ?_⟩
    have ku : upd H5 u (.tup ((pairS q.1 q.2).map V.str)) u = some (.tup ((keyT q).map kV)) := by rw [upd_same, keyT_vals]
    have s6 : Same H (upd H5 u (.tup ((pairS q.1 q.2).map V.str))) := (s4.trans s5).trans (Same.new hu)
    have hk6 := (s5.trans (Same.new (o := .tup ((pairS q.1 q.2).map V.str)) hu)) _ _ hk4
    have hs6 := (s5.trans (Same.new (o := .tup ((pairS q.1 q.2).map V.str)) hu)) _ _ hs4
    generalize upd H5 u (.tup ((pairS q.1 q.2).map V.str)) = H6 at ku s6 hk6 hs6 ⊢
    have g6 : DGet H6 sp (.ref u) none := by
      have := DGet.t (kvs := dT (ties.take i)) (k := keyT q) hs6 ku
      rw [valT_not hfr] at this
      exact this
    refine ⟨_, rfl, sp, none, rfl, g6, _, rfl, iteF ?_⟩
    -- seen[pair_of(tie[0], tie[1])] = True
    have t6 := s6 _ _ htq
    refine ⟨_, rfl, _, rfl, _, _, _, _, rfl, rfl, SqT.of t6, rfl, _, rfl, _, _, _, _, rfl, rfl, SqT.of t6, rfl, q.1, q.2, rfl, fun u2 hu2 => ?_⟩
    have ku2 : upd H6 u2 (.tup ((pairS q.1 q.2).map V.str)) u2 = some (.tup ((keyT q).map kV)) := by rw [upd_same, keyT_vals]
    have s7 : Same H (upd H6 u2 (.tup ((pairS q.1 q.2).map V.str))) := s6.trans (Same.new hu2)
    have hk7 := (Same.new (o := .tup ((pairS q.1 q.2).map V.str)) hu2) _ _ hk6
    have hs7 := (Same.new (o := .tup ((pairS q.1 q.2).map V.str)) hu2) _ _ hs6
    generalize upd H6 u2 (.tup ((pairS q.1 q.2).map V.str)) = H7 at ku2 s7 hk7 hs7 ⊢
    refine ⟨sp, _, rfl, DPut.t (kvs := dT (ties.take i)) (k := keyT q) hs7 ku2 (by unfold dT; rw [List.length_map, List.length_take]; have := TO.len; exact small_lt (by omega)), ?_⟩
    rw [putT_new hfr]
    refine ⟨_, _, po, rfl, s7.mut hsp0, by rw [upd_ne hks]; exact hk7, ?_⟩
    rw [upd_same, take_succ_get hq]
  · rintro σ H' ⟨ao, to, po, rfl, s3, _⟩
    exact k _ s3
end HW

set_option Elab.async false
set_option linter.all false
set_option maxRecDepth 100000
set_option maxHeartbeats 4000000
set_option pp.maxSteps 400
set_option pp.fieldNotation false
namespace HW
open PySem PySem.Spec PyProof.Rows L2 He
open C8 (Cal Met Mak pe_c pe_mk pe_mt pe_mt0 pe_gc InsC call_isC)
open HP
def prV (pr : Str → Int) (a : Str) : V := .int (pr a)
def spCheckPrices : Sp := fun vs H Q _ => ∃ (pp pd : Addr) (places : List Str) (pr : Str → Int), vs = [.ref pp, .ref pd] ∧ H pp = some (.tup (places.map vS)) ∧ H pd = some (.dK (dS (prV pr) places)) ∧ places.length ≤ 40 ∧ (∀ a ∈ places, 1 ≤ pr a ∧ pr a ≤ maxPrice) ∧ ∀ H', Same H H' → Q .non H'

theorem sc_check_prices : FnScope ["places", "prices", "place"] ["places", "prices"] (defScope s_check_prices) := ⟨rfl, rfl, rfl, by decide +kernel, rfl, by decide +kernel, by decide +kernel⟩

theorem ok_check_prices {P : Program} {w : World} {K : PySem.W.Frag} {mg : Str → Option Value} {base : Heap} (T : Txt K mg) (F_is_price : Cal P w K mg base 2 "is_price" spIsPrice []) : Cal P w K mg base 3 "check_prices" (spCheckPrices) [] := by
  refine cal_of (D := d_check_prices) (T.says.def_ 13 rfl) T.g_check_prices (fun _ _ _ _ _ _ us hl => match us, hl with | [_, _], _ => rfl) sc_check_prices (fun vs H Q E h => ?_) (fun cdv A outer s H vs Q E hr h => ?_)
  · obtain ⟨pp, pd, _, _, rfl, _⟩ := h
    rfl
  have hu := hu_of hr
  refine ⟨_, (pss_cons (ps_if (PW.pt (pw_or (pt_not (pt_val (pe_callB call_isi (by rfl) T.f_isinstance (by decide +kernel) (pa_cons (pv 1) (pa_cons (pe_ty (n := "dict") (by rfl) T.f_dict (by decide +kernel)) pa_nil))))) (pw_or1 (pt_cmpR op_ne (pe_callB call_lenD (by rfl) T.f_len (by decide +kernel) (pa_cons (pv 1) pa_nil)) (pe_callB call_len_seq (by rfl) T.f_len (by decide +kernel) (pa_cons (pv 0) pa_nil)) (nomark _))))) (pss_one (ps_never)) pss_nil)
    (C8.pss_cut (ps_for PassesOwn.never rfl (pi_tup (pv 0)) (pg_name (i := 2) sc_check_prices.nd rfl (Or.inl rfl)) (pss_one (ps_if (pt_cmp (pc_dnotin hu (pv 2) (pv 1)) rfl) (pss_one (ps_never)) pss_nil)))
    (pss_one (ps_for PassesOwn.never rfl (pi_list (pe_callB cr_sortedST (by rfl) T.f_sorted (by decide +kernel) (pa_cons (pv 0) pa_nil))) (pg_name (i := 2) sc_check_prices.nd rfl (Or.inl rfl)) (pss_one (ps_if (pt_not (pt_val (pe_c F_is_price hr (by decide) rfl (pa_cons (pe_dget hu (pv 1) (pv 2) (fun _ _ => rfl)) pa_nil)))) (pss_one (ps_never)) pss_nil)))))), ?_⟩
  obtain ⟨pp, pd, places, pr, rfl, hpp, hpd, h40, hpr, k⟩ := h
  refine ⟨_, rfl, _, _, _, _, true, rfl, .ty _, .base (.dK hpd), kit_ty (by decide +kernel), ?_⟩
  refine ⟨_, rfl, iteF ?_⟩
  refine ⟨_, rfl, _, _, rfl, hpd, _, rfl, _, _, rfl, .inr (SqT.of hpp), rfl, _, rfl, ?_⟩
  have e0 : (!decide (V.int ((dS (prV pr) places).length : Nat) = V.int ((places.map vS).length : Nat))) = false := by
    rw [dS_length, List.length_map, decide_eq_true rfl]; rfl
  rw [e0]
  refine iteF ?_
  refine ⟨fun σ H' => ∃ po, σ = [some (.ref pp), some (.ref pd), po] ∧ H' = H, ?_, ?_⟩
  · refine ⟨_, rfl, pp, rfl, ⟨_, SqT.of hpp⟩, ?_⟩
    refine for_tup (K := K) (a := pp) (xs := places.map vS) (fun i σ H' => ∃ po, σ = [some (.ref pp), some (.ref pd), po] ∧ H' = H) ⟨none, rfl, rfl⟩ (fun i σ H' _ ⟨_, _, e⟩ => e ▸ SqT.of hpp) ?_ ?_
    · rintro i x σ H' hx ⟨po, rfl, rfl⟩
      obtain ⟨a, ha, rfl⟩ := str_get hx
      refine ⟨_, rfl, _, rfl, pd, _, rfl, dget_in (.inl hpd) (List.mem_of_getElem? ha), _, rfl, iteF ?_⟩
      exact ⟨_, rfl, rfl⟩
    · rintro σ H' ⟨po, rfl, rfl⟩
      exact ⟨po, rfl, rfl⟩
  rintro σ H' ⟨po, rfl, rfl⟩
  refine ⟨_, rfl, pp, places, rfl, SqT.of hpp, by omega, fun ys q hys _ hq => ⟨q, rfl, ⟨_, SqL.of upd_same⟩, ?_⟩⟩
  have s1 : Same H' (upd H' q (.lst (ys.map V.str))) := Same.new hq
  have hq1 : upd H' q (.lst (ys.map V.str)) q = some (.lst (ys.map V.str)) := upd_same
  generalize upd H' q (.lst (ys.map V.str)) = H1 at s1 hq1 ⊢
  refine for_list (K := K) (a := q) (xs := ys.map V.str) (fun i σ H' => ∃ po, σ = [some (.ref pp), some (.ref pd), po] ∧ H' = H1) ⟨po, rfl, rfl⟩ (fun i σ H' _ ⟨_, _, e⟩ => e ▸ SqL.of hq1) ?_ ?_
  · rintro i x σ H2 hx ⟨po, rfl, rfl⟩
    obtain ⟨a, ha, rfl⟩ := str_get hx
    have ham : a ∈ places := hys.mem_iff.mp (List.mem_of_getElem? ha)
    refine ⟨_, rfl, _, rfl, pd, _, rfl, dget_in (.inl (s1 _ _ hpd)) ham, _, rfl, hpr a ham, _, rfl, iteF ?_⟩
    exact ⟨_, rfl, rfl⟩
  · rintro σ H2 ⟨po, rfl, rfl⟩
    exact k _ s1
def spPartners : Sp := fun vs H Q _ => ∃ (pt : Addr) (ties : List Tie) (a : Str), vs = [.ref pt, .str a] ∧ LstT tieV H pt ties ∧ ties.length ≤ 400 ∧ (partL ties a).length < 64 ∧
  ∀ H' p ys, Same H H' → H' p = some (.lst (ys.map vS)) → ys.Perm (partL ties a) → PyProof.Rows.sortedS ys = true → Q (.ref p) H'

theorem sc_partners : FnScope ["ties", "place", "a", "b"] ["ties", "place"] (defScope s_partners) := ⟨rfl, rfl, rfl, by decide +kernel, rfl, by decide +kernel, by decide +kernel⟩

theorem ok_partners {P : Program} {w : World} {K : PySem.W.Frag} {mg : Str → Option Value} {base : Heap} (T : Txt K mg)  : Cal P w K mg base 1 "partners" (spPartners) [] := by
  refine cal_of (D := d_partners) (T.says.def_ 14 rfl) T.g_partners (fun _ _ _ _ _ _ us hl => match us, hl with | [_, _], _ => rfl) sc_partners (fun vs H Q E h => ?_) (fun cdv A outer s H vs Q E hr h => ?_)
  · obtain ⟨pt, _, a, rfl, _⟩ := h
    rfl
  have hu := hu_of hr
  refine ⟨_, (pss_one (ps_ret (pe_callB cr_sortedS (by rfl) T.f_sorted (by decide +kernel) (pa_cons (pe_op op_cat (pe_lc rfl sc_partners.nd (pi_list (pv 0)) (blkOk_by (N := ["ties", "place", "a", "b"]) (sc := defScope s_partners) (own := [("a", 2), ("b", 3)]) (by decide +kernel)) (fun _ _ _ _ _ => (pg_tup_k (K := K) (n := 2) rfl rfl (pgs_cons (pg_name (i := 2) sc_partners.nd rfl (Or.inl rfl)) (pgs_cons (pg_name (i := 3) sc_partners.nd rfl (Or.inl rfl)) pgs_nil)))) (fun _ _ _ _ _ => pts_one (pt_cmpR op_eq (pv 2) (pv 1) (nomark _))) (fun _ _ _ _ _ => (pv 3))) (pe_lc rfl sc_partners.nd (pi_list (pv 0)) (blkOk_by (N := ["ties", "place", "a", "b"]) (sc := defScope s_partners) (own := [("a", 2), ("b", 3)]) (by decide +kernel)) (fun _ _ _ _ _ => (pg_tup_k (K := K) (n := 2) rfl rfl (pgs_cons (pg_name (i := 2) sc_partners.nd rfl (Or.inl rfl)) (pgs_cons (pg_name (i := 3) sc_partners.nd rfl (Or.inl rfl)) pgs_nil)))) (fun _ _ _ _ _ => pts_one (pt_cmpR op_eq (pv 3) (pv 1) (nomark _))) (fun _ _ _ _ _ => (pv 2)))) pa_nil)))), ?_⟩
  obtain ⟨pt, ties, a, rfl, ⟨ts, hpt, hts⟩, h400, h64, k⟩ := h
  have hlen : (ts.map vR).length = ties.length := by rw [List.length_map]; exact hts.1
  refine ⟨_, rfl, pt, rfl, ⟨_, SqL.of hpt⟩, fun L hL => ?_⟩
  refine lc_list (K := K) (a := pt) (xs := ts.map vR) (fun i H' => H' = upd H L (.lst ((((ties.take i).filter fun q => decide (q.1 = a)).map Prod.snd).map vS))) rfl (fun i H' _ e => by
      subst e
      exact SqL.of ((Same.new hL) _ _ hpt)) ?_ ?_
  · rintro i x H' hx rfl
    obtain ⟨t, q, _, hq, rfl, htq⟩ := hts.get hx
    have ht1 := (Same.new (o := .lst ((((ties.take i).filter fun q => decide (q.1 = a)).map Prod.snd).map vS)) hL) _ _ htq
    refine ⟨t, _, rfl, .inl (.inl ht1), rfl, _, _, rfl, _, _, rfl, rfl, rfl, _, rfl, _, rfl, rfl, _, rfl, ?_⟩
    refine ite2 (fun c => ?_) (fun c => ?_)
    · have c : q.1 = a := by
        have := of_decide_eq_true c
        injection this
      refine ⟨_, rfl, _, upd_same, ?_, ?_⟩
      · rw [List.length_map, List.length_map]
        exact small_lt (Nat.lt_of_le_of_lt (List.length_filter_le _ _) (by rw [List.length_take]; omega))
      · rw [upd_upd, take_succ_get hq, List.filter_append, List.filter_cons_of_pos (by simp [c]), List.map_append, List.map_append]
        rfl
    · have c : ¬ q.1 = a := fun z => c (decide_eq_true (by rw [z]))
      show upd H L _ = upd H L _
      rw [take_succ_get hq, List.filter_append, List.filter_cons_of_neg (by simp [c]), List.filter_nil, List.append_nil]
  rintro H1 rfl
  rw [hlen, List.take_length]
  have s1 : Same H (upd H L (.lst (((ties.filter fun q => decide (q.1 = a)).map Prod.snd).map vS))) := Same.new hL
  have hL1 : upd H L (.lst (((ties.filter fun q => decide (q.1 = a)).map Prod.snd).map vS)) L = some (.lst (((ties.filter fun q => decide (q.1 = a)).map Prod.snd).map vS)) := upd_same
  generalize upd H L (.lst (((ties.filter fun q => decide (q.1 = a)).map Prod.snd).map vS)) = H1 at s1 hL1 ⊢
  refine ⟨_, rfl, pt, rfl, ⟨_, SqL.of (s1 _ _ hpt)⟩, fun M hM => ?_⟩
  have hLM : L ≠ M := ne_of_none hL1 hM
  refine lc_list (K := K) (a := pt) (xs := ts.map vR) (fun i H' => H' = upd H1 M (.lst ((((ties.take i).filter fun q => decide (q.2 = a)).map Prod.fst).map vS))) rfl (fun i H' _ e => by
      subst e
      exact SqL.of ((s1.trans (Same.new hM)) _ _ hpt)) ?_ ?_
  · rintro i x H' hx rfl
    obtain ⟨t, q, _, hq, rfl, htq⟩ := hts.get hx
    have ht1 := (s1.trans (Same.new (o := .lst ((((ties.take i).filter fun q => decide (q.2 = a)).map Prod.fst).map vS)) hM)) _ _ htq
    refine ⟨t, _, rfl, .inl (.inl ht1), rfl, _, _, rfl, _, _, rfl, rfl, rfl, _, rfl, _, rfl, rfl, _, rfl, ?_⟩
    refine ite2 (fun c => ?_) (fun c => ?_)
    · have c : q.2 = a := by
        have := of_decide_eq_true c
        injection this
      refine ⟨_, rfl, _, upd_same, ?_, ?_⟩
      · rw [List.length_map, List.length_map]
        exact small_lt (Nat.lt_of_le_of_lt (List.length_filter_le _ _) (by rw [List.length_take]; omega))
      · rw [upd_upd, take_succ_get hq, List.filter_append, List.filter_cons_of_pos (by simp [c]), List.map_append, List.map_append]
        rfl
    · have c : ¬ q.2 = a := fun z => c (decide_eq_true (by rw [z]))
      show upd H1 M _ = upd H1 M _
      rw [take_succ_get hq, List.filter_append, List.filter_cons_of_neg (by simp [c]), List.filter_nil, List.append_nil]
  rintro H2 rfl
  rw [hlen, List.take_length]
  have s2 : Same H (upd H1 M (.lst (((ties.filter fun q => decide (q.2 = a)).map Prod.fst).map vS))) := s1.trans (Same.new hM)
  have hL2 : upd H1 M (.lst (((ties.filter fun q => decide (q.2 = a)).map Prod.fst).map vS)) L = some (.lst (((ties.filter fun q => decide (q.1 = a)).map Prod.snd).map vS)) := by rw [upd_ne hLM]; exact hL1
  have hM2 : upd H1 M (.lst (((ties.filter fun q => decide (q.2 = a)).map Prod.fst).map vS)) M = some (.lst (((ties.filter fun q => decide (q.2 = a)).map Prod.fst).map vS)) := upd_same
  generalize upd H1 M (.lst (((ties.filter fun q => decide (q.2 = a)).map Prod.fst).map vS)) = H2 at s2 hL2 hM2 ⊢
  have l1 : ((ties.filter fun q => decide (q.1 = a)).map Prod.snd).length + ((ties.filter fun q => decide (q.2 = a)).map Prod.fst).length = (partL ties a).length := by unfold partL; rw [List.length_append]
  refine ⟨L, M, _, _, rfl, rfl, hL2, hM2, by rw [List.length_map, List.length_map (f := vS), l1]; exact small_le (by omega), fun p hp => ?_⟩
  refine ⟨p, partL ties a, rfl, SqL.of ?_, h64, fun ys q hys hs hq => ?_⟩
  · rw [upd_same, ← List.map_append]
    rfl
  · exact k _ q ys ((s2.trans (Same.new hp)).trans (Same.new hq)) upd_same hys hs
end HW

set_option Elab.async false
set_option linter.all false
set_option maxRecDepth 100000
set_option maxHeartbeats 4000000
set_option pp.maxSteps 400
set_option pp.fieldNotation false
namespace HW
open PySem PySem.Spec PyProof.Rows L2 He
open C8 (Cal Met Mak pe_c pe_mk pe_mt pe_mt0 pe_gc InsC call_isC)
open HP
/-! ### webs in the heap -/
structure WebAt (C : Addr) (H : Hp) (p : Addr) (W : WebD Str) : Prop where
  ex : ∃ dx dp db, ∃ la : Str → Addr, H p = some (.ins C dx [("_prices", .ref dp), ("_beside", .ref db)]) ∧ H dp = some (.dK (dS (prV W.pr) W.N)) ∧ H db = some (.dK (dS (fun a => .ref (la a)) W.N)) ∧ ∀ a ∈ W.N, H (la a) = some (.lst ((W.N.filter (W.adj a)).map vS))
theorem WebAt.same {C : Addr} {H H' : Hp} {p : Addr} {W : WebD Str} (h : WebAt C H p W) (s : Same H H') : WebAt C H' p W := by
  obtain ⟨dx, dp, db, la, h1, h2, h3, h4⟩ := h.ex
  exact ⟨dx, dp, db, la, s _ _ h1, s _ _ h2, s _ _ h3, fun a ha => s _ _ (h4 a ha)⟩
def spWeb (C : Addr) : Sp := fun vs H Q _ => ∃ (H0 : Hp) (p dx pp pt pd : Addr) (places : List Str) (ties : List Tie) (pr : Str → Int), vs = [.ref p, .ref pp, .ref pt, .ref pd] ∧ Same H0 H ∧ H0 p = none ∧ H p = some (.ins C dx []) ∧ H0 pp = some (.tup (places.map vS)) ∧ LstT tieV H0 pt ties ∧ H0 pd = some (.dK (dS (prV pr) places)) ∧
  1 ≤ places.length ∧ places.length ≤ 40 ∧ places.Nodup ∧ (∀ a ∈ places, NameOk a) ∧ (∀ a ∈ places, 1 ≤ pr a ∧ pr a ≤ maxPrice) ∧ TiesOk places ties ∧
  ∀ H' N, Same H0 H' → N.Perm places → N.Pairwise slt → WebAt C H' p ⟨N, pr, adjOf ties⟩ → Q .non H'

theorem sc_Web_init : FnScope ["self", "places", "ties", "prices", "place"] ["self", "places", "ties", "prices"] (defScope s_Web_init) := ⟨rfl, rfl, rfl, by decide +kernel, rfl, by decide +kernel, by decide +kernel⟩

theorem ok_Web_init {P : Program} {w : World} {K : PySem.W.Frag} {mg : Str → Option Value} {base : Heap} (T : Txt K mg) (F_check_places : Cal P w K mg base 2 "check_places" spCheckPlaces []) (F_check_ties : Cal P w K mg base 2 "check_ties" spCheckTies []) (F_check_prices : Cal P w K mg base 3 "check_prices" spCheckPrices []) (F_partners : Cal P w K mg base 1 "partners" spPartners []) : Mak P w K mg base 4 "Web" (ga K "Web") (spWeb (ga K "Web")) [] := by
  refine mak_of (D := d_Web_init) (T.says.def_ 15 rfl) T.mk_Web T.g_Web (fun _ _ _ _ _ _ us hl => match us, hl with | [_, _, _, _], _ => rfl) sc_Web_init (fun vs H Q E h => ?_) (fun cdv A outer s H vs Q E hr h => ?_)
  · obtain ⟨_, p, _, pp, pt, pd, _, _, _, rfl, _⟩ := h
    rfl
  have hu := hu_of hr
  refine ⟨_, (pss_cons (ps_expr (pe_c F_check_places hr (by decide) rfl (pa_cons (pv 1) pa_nil)))
    (pss_cons (ps_expr (pe_c F_check_ties hr (by decide) rfl (pa_cons (pv 1) (pa_cons (pv 2) pa_nil))))
    (pss_cons (ps_expr (pe_c F_check_prices hr (by decide) rfl (pa_cons (pv 1) (pa_cons (pv 3) pa_nil))))
    (pss_cons (ps_fld (pv 0) (pe_dc rfl sc_Web_init.nd (pi_list (pe_callB cr_sortedST (by rfl) T.f_sorted (by decide +kernel) (pa_cons (pv 1) pa_nil))) (blkOk_by (N := ["self", "places", "ties", "prices", "place"]) (sc := defScope s_Web_init) (own := [("place", 4)]) (by decide +kernel)) (fun _ _ _ _ _ => (pg_name (i := 4) sc_Web_init.nd rfl (Or.inl rfl))) (fun _ _ _ _ _ => pts_nil) (fun _ _ _ _ _ => (pv 4)) (fun _ _ _ _ _ => (pe_dget hu (pv 3) (pv 4) (fun _ _ => rfl)))) rfl)
    (pss_one (ps_fld (pv 0) (pe_dc rfl sc_Web_init.nd (pi_list (pe_callB cr_sortedST (by rfl) T.f_sorted (by decide +kernel) (pa_cons (pv 1) pa_nil))) (blkOk_by (N := ["self", "places", "ties", "prices", "place"]) (sc := defScope s_Web_init) (own := [("place", 4)]) (by decide +kernel)) (fun _ _ _ _ _ => (pg_name (i := 4) sc_Web_init.nd rfl (Or.inl rfl))) (fun _ _ _ _ _ => pts_nil) (fun _ _ _ _ _ => (pv 4)) (fun _ _ _ _ _ => (pe_c F_partners hr (by decide) rfl (pa_cons (pv 2) (pa_cons (pv 4) pa_nil))))) rfl)))))), ?_⟩
  obtain ⟨H0, p, dx, pp, pt, pd, places, ties, pr, rfl, s0, hp0, hp, hpp, hpt, hpd, h1, h40, hnd, hnm, hpr, TO, k⟩ := h
  -- check_places(places); check_ties(places, ties); check_prices(places, prices)
  refine ⟨_, rfl, pp, places, rfl, s0 _ _ hpp, h1, h40, hnd, hnm, fun H1 s1 => ?_⟩
  have t1 := s0.trans s1
  refine ⟨_, rfl, _, rfl, pp, pt, places, ties, rfl, t1 _ _ hpp, hpt.same t1, hnd, h40, TO, fun H2 s2 => ?_⟩
  have t2 := t1.trans s2
  refine ⟨_, rfl, _, rfl, pp, pd, places, pr, rfl, t2 _ _ hpp, t2 _ _ hpd, h40, hpr, fun H3 s3 => ?_⟩
  have t3 := t2.trans s3
  have hp3 := (s1.trans (s2.trans s3)) _ _ hp
  -- self._prices = {place: prices[place] for place in sorted(places)}
  refine ⟨_, rfl, pp, places, rfl, SqT.of (t3 _ _ hpp), by omega, fun N q hN hs hq => ⟨q, rfl, ⟨_, SqL.of upd_same⟩, fun dp hdp => ?_⟩⟩
  have hNn : N.Nodup := hN.nodup_iff.mpr hnd
  have hNs : N.Pairwise slt := sorted_pairwise hs hNn
  have hNl : N.length ≤ 40 := by rw [hN.length_eq]; exact h40
  have s4 : Same H3 (upd H3 q (.lst (N.map V.str))) := Same.new hq
  have hq4 : upd H3 q (.lst (N.map V.str)) q = some (.lst (N.map V.str)) := upd_same
  generalize upd H3 q (.lst (N.map V.str)) = H4 at s4 hq4 hdp ⊢
  have t4 := t3.trans s4
  refine dc_it (walk_list (K := K) (a := q) (xs := N.map V.str)) (fun i H' => H' = upd H4 dp (.dK (dS (prV pr) (N.take i)))) rfl (fun i H' _ e => by
      subst e
      exact SqL.of ((Same.new hdp) _ _ hq4)) ?_ ?_
  · rintro i x H5 H6 hi rfl ⟨rfl, hx⟩
    obtain ⟨a, ha, rfl⟩ := str_get hx
    have ham : a ∈ places := hN.mem_iff.mp (List.mem_of_getElem? ha)
    refine ⟨rfl, _, rfl, _, rfl, _, rfl, pd, _, rfl, dget_in (.inl ((t4.trans (Same.new hdp)) _ _ hpd)) ham, _, Sum.inr a, rfl, upd_same, by rw [dS_length, List.length_take]; exact small_lt (by omega), ?_⟩
    rw [upd_upd, putS_new (nodup_take_get hNn ha), take_succ_get ha]
  rintro H5 rfl
  rw [List.length_map, List.take_length]
  have s5 : Same H4 (upd H4 dp (.dK (dS (prV pr) N))) := Same.new hdp
  have hd5 : upd H4 dp (.dK (dS (prV pr) N)) dp = some (.dK (dS (prV pr) N)) := upd_same
  generalize upd H4 dp (.dK (dS (prV pr) N)) = H5 at s5 hd5 ⊢
  have t5 := t4.trans s5
  have hp5 := (s4.trans s5) _ _ hp3
  refine ⟨_, rfl, p, _, dx, _, rfl, hp5, T.c_Web, T.n_Web_prices, lt1000 0 rfl rfl, ?_⟩
  rw [show putF ("_prices" : Str) (.ref dp) [] = ([("_prices", .ref dp)] : List (Str × V)) from rfl]
  have hpdp : p ≠ dp := ne_of hp5 hd5 (by intro z; cases z)
  have t6 : Same H0 (upd H5 p (.ins (ga K "Web") dx ([("_prices", .ref dp)] : List (Str × V)))) := t5.mut hp0
  have hp6 : upd H5 p (.ins (ga K "Web") dx ([("_prices", .ref dp)] : List (Str × V))) p = some (.ins (ga K "Web") dx ([("_prices", .ref dp)] : List (Str × V))) := upd_same
  have hd6 : upd H5 p (.ins (ga K "Web") dx ([("_prices", .ref dp)] : List (Str × V))) dp = some (.dK (dS (prV pr) N)) := by rw [upd_ne (Ne.symm hpdp)]; exact hd5
  generalize upd H5 p (.ins (ga K "Web") dx ([("_prices", .ref dp)] : List (Str × V))) = H6 at t6 hp6 hd6 ⊢
  -- self._beside = {place: partners(ties, place) for place in sorted(places)}
  refine ⟨_, rfl, pp, places, rfl, SqT.of (t6 _ _ hpp), by omega, fun M q2 hM hs2 hq2 => ⟨q2, rfl, ⟨_, SqL.of upd_same⟩, fun db hdb => ?_⟩⟩
  obtain rfl : N = M := sorted_unique hNs (sorted_pairwise hs2 (hM.nodup_iff.mpr hnd)) (hN.trans hM.symm)
  have s7 : Same H6 (upd H6 q2 (.lst (N.map V.str))) := Same.new hq2
  have hq7 : upd H6 q2 (.lst (N.map V.str)) q2 = some (.lst (N.map V.str)) := upd_same
  generalize upd H6 q2 (.lst (N.map V.str)) = H7 at s7 hq7 hdb ⊢
  have t7 := t6.trans s7
  refine dc_it (walk_list (K := K) (a := q2) (xs := N.map V.str)) (fun i H' => ∃ la : Str → Addr, Same H7 H' ∧ H' db = some (.dK (dS (fun a => .ref (la a)) (N.take i))) ∧ ∀ a ∈ N.take i, H' (la a) = some (.lst ((N.filter (adjOf ties a)).map vS)))
    ⟨fun _ => db, Same.new hdb, upd_same, fun a ha => by simp at ha⟩ (fun i H' _ ⟨_, s, _⟩ => SqL.of (s _ _ hq7)) ?_ ?_
  · rintro i x H8 H9 hi ⟨la, s8, hb8, hl8⟩ ⟨rfl, hx⟩
    obtain ⟨a, ha, rfl⟩ := str_get hx
    have ham : a ∈ N := List.mem_of_getElem? ha
    have hnot := nodup_take_get hNn ha
    have t8 := t7.trans s8
    refine ⟨rfl, _, rfl, _, rfl, _, rfl, pt, ties, a, rfl, hpt.same t8, TO.len, by have := partL_le TO hnd a; omega, fun H10 q3 ys s10 hq3 hys hss => ?_⟩
    have hys2 := partL_sorted hNs hN TO hys hss
    have hb10 := s10 _ _ hb8
    have hq3b : q3 ≠ db := ne_of hq3 hb10 (by intro z; cases z)
    refine ⟨_, Sum.inr a, rfl, hb10, by rw [dS_length, List.length_take]; exact small_lt (by omega), fun b => if b = a then q3 else la b, (s8.trans s10).mut hdb, ?_, fun b hb => ?_⟩
    · rw [upd_same]
      have e1 : dS (fun a => V.ref (la a)) (N.take i) = dS (fun b => V.ref (if b = a then q3 else la b)) (N.take i) := dS_congr fun b hb => by
        have hne : b ≠ a := fun z => hnot (z ▸ hb)
        show V.ref (la b) = V.ref (if b = a then q3 else la b)
        rw [if_neg hne]
      have e2 := putS_new (f := fun b => V.ref (if b = a then q3 else la b)) hnot
      rw [if_pos rfl] at e2
      rw [e1, e2, take_succ_get ha]
    · rw [take_succ_get ha] at hb
      rcases List.mem_append.mp hb with z | z
      · have hne : b ≠ a := fun y => hnot (y ▸ z)
        have := hl8 b z
        show upd H10 db _ (if b = a then q3 else la b) = _
        rw [if_neg hne, upd_ne (ne_of this hb8 (by intro z; cases z))]
        exact s10 _ _ this
      · have := List.mem_singleton.mp z
        subst this
        show upd H10 db _ (if b = b then q3 else la b) = _
        rw [if_pos rfl, upd_ne hq3b, hq3, hys2]
  rintro H8 ⟨la, s8, hb8, hl8⟩
  rw [List.length_map, List.take_length] at hb8 hl8
  have hp8 := (s7.trans s8) _ _ hp6
  refine ⟨_, rfl, p, _, dx, _, rfl, hp8, T.c_Web, T.n_Web_beside, lt1000 1 rfl rfl, ?_⟩
  refine k _ N ((t7.trans s8).mut hp0) hN hNs ⟨dx, dp, db, la, upd_same, ?_, ?_, fun a ha => ?_⟩
  · have hd8 := (s7.trans s8) _ _ hd6
    rw [upd_ne (Ne.symm hpdp)]; exact hd8
  · rw [upd_ne (ne_of hb8 hp8 (by intro z; cases z))]; exact hb8
  · rw [upd_ne (ne_of (hl8 a ha) hp8 (by intro z; cases z))]; exact hl8 a ha
end HW

set_option Elab.async false
set_option linter.all false
set_option maxRecDepth 100000
set_option maxHeartbeats 4000000
set_option pp.maxSteps 400
set_option pp.fieldNotation false
namespace HW
open PySem PySem.Spec PyProof.Rows L2 He
open C8 (Cal Met Mak pe_c pe_mk pe_mt pe_mt0 pe_gc InsC call_isC)
open HP
theorem it_core {J : It} {n : Nat} {G : Hp → Prop} {Y : Nat → Hp → V → Hp → Prop} (w : Walk J n G Y) {B : (Hp → Prop) → V → Hp → Prop} {H0 : Hp} {Qd : Hp → Prop} (Pv : Nat → Hp → Prop) (h0 : Pv 0 H0) (hG : ∀ i H, i ≤ n → Pv i H → G H)
    (hs : ∀ i x H H', i < n → Pv i H → Y i H x H' → B (Pv (i + 1)) x H') (hd : ∀ H, Pv n H → Qd H) :
    ∃ W : Nat → Nat → Hp → Prop, (∃ m, W 0 m H0) ∧ ∀ i m H, W i m H →
      (J.stop i H ∧ Qd H) ∨ (J.go i H ∧ ∃ Nx : Hp → Prop, (∀ H', Nx H' → ∃ m', m' < m ∧ W (i + 1) m' H') ∧ ∀ x H', J.yld i H x H' → B Nx x H') := by
  refine ⟨fun i m H => m = n - i ∧ i ≤ n ∧ Pv i H, ⟨n, by simp, Nat.zero_le _, h0⟩, ?_⟩
  rintro i m H ⟨rfl, hi, p⟩
  have q := hG i H hi p
  by_cases hlt : i < n
  · exact .inr ⟨w.goes i H hlt q, Pv (i + 1), fun H' p' => ⟨n - (i + 1), by omega, rfl, hlt, p'⟩, fun x H' y => hs i x H H' hlt p (w.yields i H x H' hlt q y)⟩
  · have e : i = n := by omega
    subst e
    exact .inl ⟨w.stops H q, hd H p⟩
theorem _root_.L2.Same.unlock {H H' : Hp} {d : Addr} {u f : HO} (hd : H d = some u) (s : Same (upd H d f) H') : Same H (upd H' d u) := fun a o e => by
  by_cases c : a = d
  · subst c
    rw [upd_same]
    rw [hd] at e
    exact e
  · rw [upd_ne c]
    exact s a o (by rw [upd_ne c]; exact e)
theorem dS_keys {f : Str → V} {l : List Str} : ((dS f l).map fun kv => kV kv.1) = l.map vS := by
  unfold dS
  rw [List.map_map]
  rfl
theorem dS_get {f : Str → V} {l : List Str} {i : Nat} {k : Key} {v : V} (h : (dS f l)[i]? = some (k, v)) : ∃ a, l[i]? = some a ∧ k = Sum.inr a ∧ v = f a := by
  obtain ⟨a, ha, e⟩ := get_map h
  exact ⟨a, ha, congrArg Prod.fst e, congrArg Prod.snd e⟩
def spContains (C : Addr) : Sp := fun vs H Q _ => ∃ (p : Addr) (a : Str) (W : WebD Str), vs = [.ref p, .str a] ∧ WebAt C H p W ∧ Q (.bl (decide (a ∈ W.N))) H
def spKnown (C : Addr) : Sp := fun vs H Q _ => ∃ (p : Addr) (a : Str) (W : WebD Str), vs = [.ref p, .str a] ∧ WebAt C H p W ∧ a ∈ W.N ∧ Q .non H
def spPriceOf (C : Addr) : Sp := fun vs H Q _ => ∃ (p : Addr) (a : Str) (W : WebD Str), vs = [.ref p, .str a] ∧ WebAt C H p W ∧ a ∈ W.N ∧ Q (.int (W.pr a)) H
def spNear (C : Addr) : Sp := fun vs H Q _ => ∃ (p : Addr) (a : Str) (W : WebD Str), vs = [.ref p, .str a] ∧ WebAt C H p W ∧ a ∈ W.N ∧ ∀ q, H q = none → Q (.ref q) (upd H q (.lst ((W.N.filter (W.adj a)).map vS)))
def spPlaces (C : Addr) : Sp := fun vs H Q _ => ∃ (p : Addr) (W : WebD Str), vs = [.ref p] ∧ WebAt C H p W ∧ ∀ q, H q = none → Q (.ref q) (upd H q (.lst (W.N.map vS)))
def spTies (C : Addr) : Sp := fun vs H Q _ => ∃ (p : Addr) (W : WebD Str), vs = [.ref p] ∧ WebAt C H p W ∧ WebG W ∧ ∀ H' q, Same H H' → H q = none → LstT tieV H' q (tiesOf W) → Q (.ref q) H'

theorem sc_Web_contains : FnScope ["self", "place"] ["self", "place"] (defScope s_Web_contains) := ⟨rfl, rfl, rfl, by decide +kernel, rfl, by decide +kernel, by decide +kernel⟩

theorem ok_Web_contains {P : Program} {w : World} {K : PySem.W.Frag} {mg : Str → Option Value} {base : Heap} (T : Txt K mg)  : Met P w K mg base 1 (ga K "Web") "__contains__" (spContains (ga K "Web")) [] := by
  refine met_of (D := d_Web_contains) (T.says.def_ 16 rfl) T.c_Web T.m_Web_contains (fun _ _ _ _ _ _ us hl => match us, hl with | [_, _], _ => rfl) sc_Web_contains (fun vs H Q E h => ?_) (fun cdv A outer s H vs Q E hr h => ?_)
  · obtain ⟨p, a, _, rfl, _⟩ := h
    rfl
  have hu := hu_of hr
  refine ⟨_, (pss_one (ps_ret (pe_and (pe_callB call_isi (by rfl) T.f_isinstance (by decide +kernel) (pa_cons (pv 1) (pa_cons (pe_ty (n := "str") (by rfl) T.f_str (by decide +kernel)) pa_nil))) (pe_one (pe_cmp (pc_din hu (pv 1) (pe_fld (pv 0) (by rfl))) rfl))))), ?_⟩
  obtain ⟨p, a, W, rfl, ⟨dx, dp, db, la, h1, h2, h3, h4⟩, k⟩ := h
  refine ⟨_, rfl, _, _, _, _, true, rfl, .ty _, .base (.str _), kit_ty (by decide +kernel), ?_⟩
  by_cases ha : a ∈ W.N
  · rw [decide_eq_true ha] at k
    exact ⟨_, rfl, iteT ⟨_, rfl, _, rfl, p, _, dx, _, _, rfl, h1, T.c_Web, T.n_Web_prices, rfl, dp, _, rfl, dget_in (.inl h2) ha, k⟩⟩
  · rw [decide_eq_false ha] at k
    exact ⟨_, rfl, iteT ⟨_, rfl, _, rfl, p, _, dx, _, _, rfl, h1, T.c_Web, T.n_Web_prices, rfl, dp, none, rfl, dget_out (.inl h2) ha, k⟩⟩
theorem sc_Web_known : FnScope ["self", "place"] ["self", "place"] (defScope s_Web_known) := ⟨rfl, rfl, rfl, by decide +kernel, rfl, by decide +kernel, by decide +kernel⟩

theorem ok_Web_known {P : Program} {w : World} {K : PySem.W.Frag} {mg : Str → Option Value} {base : Heap} (T : Txt K mg)  : Met P w K mg base 1 (ga K "Web") "known" (spKnown (ga K "Web")) [] := by
  refine met_of (D := d_Web_known) (T.says.def_ 20 rfl) T.c_Web T.m_Web_known (fun _ _ _ _ _ _ us hl => match us, hl with | [_, _], _ => rfl) sc_Web_known (fun vs H Q E h => ?_) (fun cdv A outer s H vs Q E hr h => ?_)
  · obtain ⟨p, a, _, rfl, _⟩ := h
    rfl
  have hu := hu_of hr
  refine ⟨_, (pss_one (ps_if (PW.pt (pw_or (pt_not (pt_val (pe_callB call_isi (by rfl) T.f_isinstance (by decide +kernel) (pa_cons (pv 1) (pa_cons (pe_ty (n := "str") (by rfl) T.f_str (by decide +kernel)) pa_nil))))) (pw_or1 (pt_cmp (pc_dnotin hu (pv 1) (pe_fld (pv 0) (by rfl))) rfl)))) (pss_one (ps_never)) pss_nil)), ?_⟩
  obtain ⟨p, a, W, rfl, ⟨dx, dp, db, la, h1, h2, h3, h4⟩, ha, k⟩ := h
  refine ⟨_, rfl, _, _, _, _, true, rfl, .ty _, .base (.str _), kit_ty (by decide +kernel), ?_⟩
  refine ⟨_, rfl, iteF ?_⟩
  exact ⟨_, rfl, _, rfl, p, _, dx, _, _, rfl, h1, T.c_Web, T.n_Web_prices, rfl, dp, _, rfl, dget_in (.inl h2) ha, _, rfl, iteF k⟩
theorem sc_Web_price : FnScope ["self", "place"] ["self", "place"] (defScope s_Web_price) := ⟨rfl, rfl, rfl, by decide +kernel, rfl, by decide +kernel, by decide +kernel⟩

theorem ok_Web_price {P : Program} {w : World} {K : PySem.W.Frag} {mg : Str → Option Value} {base : Heap} (T : Txt K mg) (F_Web_known : Met P w K mg base 1 (ga K "Web") "known" (spKnown (ga K "Web")) []) : Met P w K mg base 2 (ga K "Web") "price" (spPriceOf (ga K "Web")) [] := by
  refine met_of (D := d_Web_price) (T.says.def_ 21 rfl) T.c_Web T.m_Web_price (fun _ _ _ _ _ _ us hl => match us, hl with | [_, _], _ => rfl) sc_Web_price (fun vs H Q E h => ?_) (fun cdv A outer s H vs Q E hr h => ?_)
  · obtain ⟨p, a, _, rfl, _⟩ := h
    rfl
  have hu := hu_of hr
  refine ⟨_, (pss_cons (ps_expr (pe_mt F_Web_known hr (by decide) (pv 0) (pa_cons (pv 1) pa_nil)))
    (pss_one (ps_ret (pe_dget hu (pe_fld (pv 0) (by rfl)) (pv 1) (fun _ _ => rfl))))), ?_⟩
  obtain ⟨p, a, W, rfl, A1, ha, k⟩ := h
  obtain ⟨dx, dp, db, la, h1, h2, h3, h4⟩ := id A1
  refine ⟨_, rfl, p, dx, _, rfl, h1, rfl, _, rfl, p, a, W, rfl, A1, ha, ?_⟩
  exact ⟨_, rfl, p, _, dx, _, _, rfl, h1, T.c_Web, T.n_Web_prices, rfl, _, rfl, dp, _, rfl, dget_in (.inl h2) ha, k⟩
theorem sc_Web_near : FnScope ["self", "place"] ["self", "place"] (defScope s_Web_near) := ⟨rfl, rfl, rfl, by decide +kernel, rfl, by decide +kernel, by decide +kernel⟩

theorem ok_Web_near {P : Program} {w : World} {K : PySem.W.Frag} {mg : Str → Option Value} {base : Heap} (T : Txt K mg) (F_Web_known : Met P w K mg base 1 (ga K "Web") "known" (spKnown (ga K "Web")) []) : Met P w K mg base 2 (ga K "Web") "near" (spNear (ga K "Web")) [] := by
  refine met_of (D := d_Web_near) (T.says.def_ 22 rfl) T.c_Web T.m_Web_near (fun _ _ _ _ _ _ us hl => match us, hl with | [_, _], _ => rfl) sc_Web_near (fun vs H Q E h => ?_) (fun cdv A outer s H vs Q E hr h => ?_)
  · obtain ⟨p, a, _, rfl, _⟩ := h
    rfl
  have hu := hu_of hr
  refine ⟨_, (pss_cons (ps_expr (pe_mt F_Web_known hr (by decide) (pv 0) (pa_cons (pv 1) pa_nil)))
    (pss_one (ps_ret (pe_callTy call_list_of (by rfl) T.f_list (by decide +kernel) (pa_cons (pe_dget hu (pe_fld (pv 0) (by rfl)) (pv 1) (fun _ _ => rfl)) pa_nil))))), ?_⟩
  obtain ⟨p, a, W, rfl, A1, ha, k⟩ := h
  obtain ⟨dx, dp, db, la, h1, h2, h3, h4⟩ := id A1
  refine ⟨_, rfl, p, dx, _, rfl, h1, rfl, _, rfl, p, a, W, rfl, A1, ha, ?_⟩
  exact ⟨_, rfl, p, _, dx, _, _, rfl, h1, T.c_Web, T.n_Web_beside, rfl, _, rfl, db, _, rfl, dget_in (.inl h3) ha, la a, _, rfl, .inl (SqL.of (h4 a ha)), k⟩
theorem sc_Web_places : FnScope ["self"] ["self"] (defScope s_Web_places) := ⟨rfl, rfl, rfl, by decide +kernel, rfl, by decide +kernel, by decide +kernel⟩

theorem ok_Web_places {P : Program} {w : World} {K : PySem.W.Frag} {mg : Str → Option Value} {base : Heap} (T : Txt K mg)  : Met P w K mg base 1 (ga K "Web") "places" (spPlaces (ga K "Web")) [] := by
  refine met_of (D := d_Web_places) (T.says.def_ 18 rfl) T.c_Web T.m_Web_places (fun _ _ _ _ _ _ us hl => match us, hl with | [_], _ => rfl) sc_Web_places (fun vs H Q E h => ?_) (fun cdv A outer s H vs Q E hr h => ?_)
  · obtain ⟨p, _, rfl, _⟩ := h
    rfl
  have hu := hu_of hr
  refine ⟨_, (pss_one (ps_ret (pe_callTy (call_list_dK rfl) (by rfl) T.f_list (by decide +kernel) (pa_cons (pe_fld (pv 0) (by rfl)) pa_nil)))), ?_⟩
  obtain ⟨p, W, rfl, ⟨dx, dp, db, la, h1, h2, h3, h4⟩, k⟩ := h
  refine ⟨_, rfl, p, _, dx, _, _, rfl, h1, T.c_Web, T.n_Web_prices, rfl, dp, _, rfl, h2, fun q hq => ?_⟩
  rw [dS_keys]
  exact k q hq
theorem sc_Web_ties : FnScope ["self", "a", "b"] ["self"] (defScope s_Web_ties) := ⟨rfl, rfl, rfl, by decide +kernel, rfl, by decide +kernel, by decide +kernel⟩

theorem ok_Web_ties {P : Program} {w : World} {K : PySem.W.Frag} {mg : Str → Option Value} {base : Heap} (T : Txt K mg)  : Met P w K mg base 1 (ga K "Web") "ties" (spTies (ga K "Web")) [] := by
  refine met_of (D := d_Web_ties) (T.says.def_ 19 rfl) T.c_Web T.m_Web_ties (fun _ _ _ _ _ _ us hl => match us, hl with | [_], _ => rfl) sc_Web_ties (fun vs H Q E h => ?_) (fun cdv A outer s H vs Q E hr h => ?_)
  · obtain ⟨p, _, rfl, _⟩ := h
    rfl
  have hu := hu_of hr
  refine ⟨_, (pss_one (ps_ret (pe_lock (pe_lc2 rfl sc_Web_ties.nd (pi_keys (pe_fld (pv 0) (by rfl))) (blkOk_by (N := ["self", "a", "b"]) (sc := defScope s_Web_ties) (own := [("a", 1), ("b", 2)]) (by decide +kernel)) (vs1 := [2]) (by decide) (fun _ _ _ _ _ => (pg_name (i := 1) sc_Web_ties.nd rfl (Or.inl rfl))) (fun _ _ _ _ _ => pts_nil) (fun _ _ _ _ _ => (pi_list_k (K := K) rfl (pe_dget hu (pe_fld_k (K := K) rfl (pv 0) (by rfl)) (pv 1) (fun _ _ => rfl)))) (fun _ _ _ _ _ => (pg_name (i := 2) sc_Web_ties.nd rfl (Or.inl rfl))) (fun _ _ _ _ _ => pts_one (pt_cmpR op_lt_str (pv 1) (pv 2) (nomark _))) (fun _ _ _ _ _ => (pe_tup (pa_cons (pv 1) (pa_cons (pv 2) pa_nil)))))))), ?_⟩
  obtain ⟨p, W, rfl, ⟨dx, dp, db, la, h1, h2, h3, h4⟩, WG, k⟩ := h
  refine ⟨db, _, h3, True.intro, fun od => ?_⟩
  have hpd : p ≠ db := ne_of h1 h3 (by intro z; cases z)
  have g1 : upd H db (.frz od (.dK (dS (fun a => .ref (la a)) W.N))) p = some (.ins (ga K "Web") dx [("_prices", .ref dp), ("_beside", .ref db)]) := by rw [upd_ne hpd]; exact h1
  have g3 : upd H db (.frz od (.dK (dS (fun a => .ref (la a)) W.N))) db = some (.frz od (.dK (dS (fun a => .ref (la a)) W.N))) := upd_same
  have g4 : ∀ a ∈ W.N, upd H db (.frz od (.dK (dS (fun a => .ref (la a)) W.N))) (la a) = some (.lst ((W.N.filter (W.adj a)).map vS)) := fun a ha => by
    rw [upd_ne (ne_of (h4 a ha) h3 (by intro z; cases z))]; exact h4 a ha
  have hfin := fun H' s => L2.Same.unlock (H' := H') (f := .frz od (.dK (dS (fun a => .ref (la a)) W.N))) h3 s
  have hfr : ∀ D, upd H db (.frz od (.dK (dS (fun a => .ref (la a)) W.N))) D = none → H D = none := fun D hD => by
    rw [upd_ne (Ne.symm (ne_of_none g3 hD))] at hD
    exact hD
  generalize upd H db (.frz od (.dK (dS (fun a => .ref (la a)) W.N))) = H1 at g1 g3 g4 hfin hfr ⊢
  refine ⟨_, rfl, p, _, dx, _, _, rfl, g1, T.c_Web, T.n_Web_beside, rfl, db, od, rfl, .inl ⟨_, g3, fun D hD => ?_⟩⟩
  have hDdb : db ≠ D := ne_of_none g3 hD
  have hsz := tiesOf_length WG
  have hN28 := WG.len
  refine it_core (walk_keys (d := db) (o := od) (kvs := dS (fun a => .ref (la a)) W.N)) (fun i H' => ∃ ts, Same H1 H' ∧ H' D = some (.lst (ts.map vR)) ∧ TupsAt tieV H' ts ((W.N.take i).flatMap fun a => ((W.N.filter (W.adj a)).filter fun b => decide (slt a b)).map fun b => (a, b)))
    ⟨[], Same.new hD, upd_same, by rw [List.take_zero]; exact TupsAt.nil⟩ (fun i H' _ ⟨_, s, _⟩ => s _ _ g3) ?_ ?_
  · rintro i x H2 H3 hi ⟨ts, s2, hD2, ht2⟩ ⟨rfl, kk, vv, hk, rfl⟩
    obtain ⟨a, ha, rfl, _⟩ := dS_get hk
    have ham : a ∈ W.N := List.mem_of_getElem? ha
    refine ⟨rfl, _, rfl, p, _, dx, _, _, rfl, s2 _ _ g1, T.c_Web, T.n_Web_beside, rfl, _, rfl, db, _, rfl, dget_in (.inr ⟨od, s2 _ _ g3⟩) ham, la a, rfl, ⟨_, SqL.of (s2 _ _ (g4 a ham))⟩, ?_⟩
    refine it_core (walk_list (K := K) (a := la a) (xs := (W.N.filter (W.adj a)).map vS)) (fun j H' => ∃ ts, Same H1 H' ∧ H' D = some (.lst (ts.map vR)) ∧ TupsAt tieV H' ts (((W.N.take i).flatMap fun a => ((W.N.filter (W.adj a)).filter fun b => decide (slt a b)).map fun b => (a, b)) ++ (((W.N.filter (W.adj a)).take j).filter fun b => decide (slt a b)).map fun b => (a, b)))
      ⟨ts, s2, hD2, by rw [List.take_zero, List.filter_nil, List.map_nil, List.append_nil]; exact ht2⟩ (fun j H' _ ⟨_, s, _⟩ => SqL.of (s _ _ (g4 a ham))) ?_ ?_
    · rintro j y H4 H5 hj ⟨ts, s4, hD4, ht4⟩ ⟨rfl, hy⟩
      obtain ⟨b, hb, rfl⟩ := str_get hy
      refine ⟨rfl, _, rfl, _, rfl, a, b, rfl, rfl, _, rfl, ?_⟩
      refine ite2 (fun c => ?_) (fun c => ?_)
      · have c : slt a b := of_decide_eq_true c
        refine ⟨_, rfl, _, rfl, by show 2 ≤ sizeLine; decide, fun t ht => ⟨ts.map vR, by rw [upd_ne (ne_of_none hD4 ht)]; exact hD4, ?_, ts ++ [t], (s4.trans (Same.new ht)).mut hD, ?_, ?_⟩⟩
        · rw [List.length_map, ht4.1, List.length_append, List.length_map]
          have e1 : ((W.N.take i).flatMap fun a => ((W.N.filter (W.adj a)).filter fun b => decide (slt a b)).map fun b => (a, b)).length ≤ (tiesOf W).length := by
            unfold tiesOf
            conv => rhs; rw [← List.take_append_drop i W.N]
            rw [List.flatMap_append, List.length_append, List.take_append_drop]
            exact Nat.le_add_right _ _
          have e2 : (((W.N.filter (W.adj a)).take j).filter fun b => decide (slt a b)).length ≤ W.N.length :=
            Nat.le_trans (List.length_filter_le _ _) (Nat.le_trans (by rw [List.length_take]; exact Nat.min_le_right _ _) (List.length_filter_le _ _))
          exact small_lt (by omega)
        · rw [upd_same, List.map_append]
          rfl
        · have h5 : upd H5 t (.tup [V.str a, V.str b]) t = some (.tup (tieV (a, b))) := upd_same
          have htD : t ≠ D := Ne.symm (ne_of_none hD4 ht)
          have e3 := (ht4.same (Same.new (o := .tup [V.str a, V.str b]) ht)).snoc h5
          rw [take_succ_get hb, List.filter_append, List.filter_cons_of_pos (by simp [c]), List.map_append, ← List.append_assoc]
          refine ⟨e3.1, fun i' a' q' h1' h2' => ?_⟩
          have := e3.2 i' a' q' h1' h2'
          rw [upd_ne (ne_of this (by rw [upd_ne (Ne.symm htD)]; exact hD4) (by intro z; cases z))]
          exact this
      · have c : ¬ slt a b := fun z => c (decide_eq_true z)
        refine ⟨ts, s4, hD4, ?_⟩
        rw [take_succ_get hb, List.filter_append, List.filter_cons_of_neg (by simp [c]), List.filter_nil, List.append_nil]
        exact ht4
    · rintro H4 ⟨ts, s4, hD4, ht4⟩
      rw [List.length_map, List.take_length] at ht4
      refine ⟨ts, s4, hD4, ?_⟩
      rw [take_succ_get ha, List.flatMap_append]
      simpa using ht4
  · rintro H2 ⟨ts, s2, hD2, ht2⟩
    rw [dS_length, List.take_length] at ht2
    refine ⟨s2 _ _ g3, ?_⟩
    refine k _ D (hfin _ s2) (hfr D hD) ⟨ts, by rw [upd_ne (Ne.symm hDdb)]; exact hD2, ht2.1, fun i a q e1 e2 => ?_⟩
    have := ht2.2 i a q e1 e2
    rw [upd_ne (ne_of this (s2 _ _ g3) (by intro z; cases z))]
    exact this
end HW

set_option Elab.async false
set_option linter.all false
set_option maxRecDepth 100000
set_option maxHeartbeats 4000000
set_option pp.maxSteps 400
set_option pp.fieldNotation false
namespace HW
open PySem PySem.Spec PyProof.Rows L2 He
open C8 (Cal Met Mak pe_c pe_mk pe_mt pe_mt0 pe_gc InsC call_isC)
open HP
section
variable {α : Type} {f : α → List V} {H : Hp} {ts us : List Addr} {xs ys : List α}
theorem TupsAt.append (h : TupsAt f H ts xs) : ∀ {us : List Addr} {ys : List α}, TupsAt f H us ys → TupsAt f H (ts ++ us) (xs ++ ys) := fun {us ys} k => by
  refine ⟨by rw [List.length_append, List.length_append, h.1, k.1], fun i b x h1 h2 => ?_⟩
  rcases Nat.lt_or_ge i ts.length with hl | hl
  · rw [List.getElem?_append_left hl] at h1
    rw [List.getElem?_append_left (by rw [← h.1]; exact hl)] at h2
    exact h.2 i b x h1 h2
  · rw [List.getElem?_append_right hl] at h1
    rw [List.getElem?_append_right (by rw [← h.1]; exact hl), ← h.1] at h2
    exact k.2 _ b x h1 h2
end
theorem dS_inj {f g : Str → V} {l m : List Str} (h : dS f l = dS g m) : l = m := by
  have := congrArg (fun z => z.map fun kv => kv.1) h
  unfold dS at this
  simp only [List.map_map] at this
  exact List.map_inj_right (fun x y z => Sum.inr.inj z) |>.mp this
theorem mergeK_app {f : Str → V} : ∀ {m l : List Str}, (l ++ m).Nodup → mergeK (dS f l) (dS f m) = dS f (l ++ m)
  | [], l, _ => by rw [List.append_nil]; rfl
  | a :: m, l, h => by
    have ha : a ∉ l := fun z => (List.nodup_append.mp h).2.2 a z a (List.mem_cons_self ..) rfl
    have e : l ++ a :: m = (l ++ [a]) ++ m := by simp
    have h1 : mergeK (dS f l) (dS f (a :: m)) = mergeK (putK (dS f l) (Sum.inr a : Key) (f a)) (dS f m) := rfl
    rw [h1, putS_new ha, mergeK_app (by rw [← e]; exact h), e]
theorem inV_str {b : Str} {l : List Str} (h : b ∉ l) : inV (.str b) (l.map vS) = false := by
  unfold inV
  rw [List.any_eq_false]
  intro x hx
  obtain ⟨a, ha, rfl⟩ := List.mem_map.mp hx
  show ¬ (a == b) = true
  intro e
  exact h (eq_of_beq e ▸ ha)
theorem all_flat {l : List Str} : (l.map vS).all flatV = true := by
  rw [List.all_map, List.all_eq_true]
  intro x _
  rfl
structure JoinW (W1 W2 W : WebD Str) : Prop where
  N : W.N.Perm (W1.N ++ W2.N)
  p1 : ∀ a ∈ W1.N, W.pr a = W1.pr a
  p2 : ∀ a ∈ W2.N, W.pr a = W2.pr a
  adj : ∀ a b, W.adj a b = (W1.adj a b || W2.adj a b)
structure TieW (W : WebD Str) (a b : Str) (W' : WebD Str) : Prop where
  N : W'.N = W.N
  pr : W'.pr = W.pr
  adj : ∀ x y, W'.adj x y = true ↔ W.adj x y = true ∨ (x = a ∧ y = b) ∨ (x = b ∧ y = a)
theorem adjOf_append {t1 t2 : List Tie} (a b : Str) : adjOf (t1 ++ t2) a b = (adjOf t1 a b || adjOf t2 a b) := by
  rw [Bool.eq_iff_iff, Bool.or_eq_true, adjOf_iff, adjOf_iff, adjOf_iff]
  simp only [List.mem_append]
  constructor
  · rintro ((h | h) | (h | h))
    · exact .inl (.inl h)
    · exact .inr (.inl h)
    · exact .inl (.inr h)
    · exact .inr (.inr h)
  · rintro ((h | h) | (h | h))
    · exact .inl (.inl h)
    · exact .inr (.inl h)
    · exact .inl (.inr h)
    · exact .inr (.inr h)
theorem ties_join {N1 N2 : List Str} {t1 t2 : List Tie} (h1 : TiesOk N1 t1) (h2 : TiesOk N2 t2) (hd : ∀ a ∈ N1, a ∉ N2) (hl : t1.length + t2.length ≤ 400) : TiesOk (N1 ++ N2) (t1 ++ t2) := by
  refine ⟨fun q hq => ?_, ?_, fun q hq hs => ?_, by rw [List.length_append]; exact hl⟩
  · rcases List.mem_append.mp hq with z | z
    · have := h1.mem q z
      exact ⟨List.mem_append.mpr (.inl this.1), List.mem_append.mpr (.inl this.2.1), this.2.2⟩
    · have := h2.mem q z
      exact ⟨List.mem_append.mpr (.inr this.1), List.mem_append.mpr (.inr this.2.1), this.2.2⟩
  · rw [List.nodup_append]
    exact ⟨h1.nodup, h2.nodup, fun x hx y hy e => hd x.1 (h1.mem x hx).1 (e ▸ (h2.mem y hy).1)⟩
  · rcases List.mem_append.mp hq with z | z <;> rcases List.mem_append.mp hs with y | y
    · exact h1.noswap q z y
    · exact hd q.1 (h1.mem q z).1 (h2.mem _ y).2.1
    · exact hd q.2 (h1.mem _ y).1 (h2.mem q z).2.1
    · exact h2.noswap q z y
theorem ties_snoc {N : List Str} {t : List Tie} {a b : Str} (h : TiesOk N t) (ha : a ∈ N) (hb : b ∈ N) (hab : a ≠ b) (hn : adjOf t a b = false) (hl : t.length < 400) : TiesOk N (t ++ [(a, b)]) := by
  have h1 : (a, b) ∉ t := fun z => by
    have := adjOf_iff.mpr (.inl z : (a, b) ∈ t ∨ (b, a) ∈ t)
    rw [hn] at this; cases this
  have h2 : (b, a) ∉ t := fun z => by
    have := adjOf_iff.mpr (.inr z : (a, b) ∈ t ∨ (b, a) ∈ t)
    rw [hn] at this; cases this
  refine ⟨fun q hq => ?_, ?_, fun q hq hs => ?_, by rw [List.length_append]; show t.length + 1 ≤ 400; omega⟩
  · rcases List.mem_append.mp hq with z | z
    · exact h.mem q z
    · rw [List.mem_singleton.mp z]; exact ⟨ha, hb, hab⟩
  · rw [List.nodup_append]
    refine ⟨h.nodup, List.nodup_cons.mpr ⟨by simp, List.nodup_nil⟩, fun x hx y hy e => ?_⟩
    rw [List.mem_singleton.mp hy] at e
    exact h1 (e ▸ hx)
  · rcases List.mem_append.mp hq with z | z <;> rcases List.mem_append.mp hs with y | y
    · exact h.noswap q z y
    · have y := List.mem_singleton.mp y
      have e1 : q.2 = a := congrArg Prod.fst y
      have e2 : q.1 = b := congrArg Prod.snd y
      exact h2 (by rw [← e1, ← e2]; exact z)
    · have z := List.mem_singleton.mp z
      rw [z] at y
      exact h2 y
    · have z := List.mem_singleton.mp z
      rw [z] at y
      have y := List.mem_singleton.mp y
      exact hab (congrArg Prod.fst y).symm
def spAddW (C : Addr) : Sp := fun vs H Q _ => ∃ (p o : Addr) (W1 W2 : WebD Str), vs = [.ref p, .ref o] ∧ WebAt C H p W1 ∧ WebAt C H o W2 ∧ WebG W1 ∧ WebG W2 ∧ (∀ a ∈ W1.N, a ∉ W2.N) ∧ W1.N.length + W2.N.length ≤ 28 ∧ (tiesOf W1).length + (tiesOf W2).length ≤ 400 ∧
  ∀ H' q W, Same H H' → JoinW W1 W2 W → WebG W → WebAt C H' q W → Q (.ref q) H'

theorem sc_Web_add : FnScope ["self", "other", "place", "ties", "prices"] ["self", "other"] (defScope s_Web_add) := ⟨rfl, rfl, rfl, by decide +kernel, rfl, by decide +kernel, by decide +kernel⟩

theorem ok_Web_add {P : Program} {w : World} {K : PySem.W.Frag} {mg : Str → Option Value} {base : Heap} (T : Txt K mg) (K_Web : Mak P w K mg base 4 "Web" (ga K "Web") (spWeb (ga K "Web")) []) (F_Web_ties : Met P w K mg base 1 (ga K "Web") "ties" (spTies (ga K "Web")) []) : Met P w K mg base 6 (ga K "Web") "__add__" (spAddW (ga K "Web")) [] := by
  refine met_of (D := d_Web_add) (T.says.def_ 17 rfl) T.c_Web T.m_Web_add (fun _ _ _ _ _ _ us hl => match us, hl with | [_, _], _ => rfl) sc_Web_add (fun vs H Q E h => ?_) (fun cdv A outer s H vs Q E hr h => ?_)
  · obtain ⟨p, o, _, _, rfl, _⟩ := h
    rfl
  have hu := hu_of hr
  refine ⟨_, (pss_cons (ps_if (pt_not (pt_val (pe_callB (call_isC T.ins_Web) (by rfl) T.f_isinstance (by decide +kernel) (pa_cons (pv 1) (pa_cons (pe_glob (v := .ref (ga K "Web")) rfl T.g_Web rfl) pa_nil))))) (pss_one (ps_never)) pss_nil)
    (C8.pss_cut (ps_lock (ps_for PassesOwn.never rfl (pi_keys (pe_fld (pv 0) (by rfl))) (pg_name (i := 2) sc_Web_add.nd rfl (Or.inl rfl)) (pss_one (ps_if (pt_cmp (pc_din hu (pv 2) (pe_fld (pv 1) (by rfl))) rfl) (pss_one (ps_never)) pss_nil))))
    (pss_cons (ps_if (pt_cmpR op_gt (pe_op op_add (pe_callB call_lenD (by rfl) T.f_len (by decide +kernel) (pa_cons (pe_fld (pv 0) (by rfl)) pa_nil)) (pe_callB call_lenD (by rfl) T.f_len (by decide +kernel) (pa_cons (pe_fld (pv 1) (by rfl)) pa_nil))) (pe_gc rfl T.k_MOST_PLACES) (nomark _)) (pss_one (ps_never)) pss_nil)
    (pss_cons (ps_set (i := 3) sc_Web_add.nd rfl (Or.inl rfl) (pe_op op_cat (pe_mt0 F_Web_ties hr (by decide) (pv 0)) (pe_mt0 F_Web_ties hr (by decide) (pv 1))))
    (pss_cons (ps_if (pt_cmpR op_gt (pe_callB call_len_seq (by rfl) T.f_len (by decide +kernel) (pa_cons (pv 3) pa_nil)) (pe_gc rfl T.k_MOST_TIES) (nomark _)) (pss_one (ps_never)) pss_nil)
    (pss_cons (ps_set (i := 4) sc_Web_add.nd rfl (Or.inl rfl) (pe_dmerge (pe_fld (pv 0) (by rfl)) (pe_fld (pv 1) (by rfl))))
    (pss_one (ps_ret (pe_mk K_Web hr (by decide) rfl (pa_cons (pe_callTy (cr_tupleD rfl) (by rfl) T.f_tuple (by decide +kernel) (pa_cons (pv 4) pa_nil)) (pa_cons (pv 3) (pa_cons (pv 4) pa_nil)))))))))))), ?_⟩
  obtain ⟨p, o, W1, W2, rfl, A1, A2, G1, G2, hdis, hlen, htl, k⟩ := h
  obtain ⟨dx1, dp1, db1, la1, a1, a2, a3, a4⟩ := id A1.ex
  obtain ⟨dx2, dp2, db2, la2, b1, b2, b3, b4⟩ := id A2.ex
  -- isinstance(other, Web)
  refine ⟨_, rfl, o, dx2, _, rfl, b1, ?_⟩
  refine ⟨_, rfl, iteF ?_⟩
  -- for place in self._prices
  refine ⟨fun σ H' => ∃ po, σ = [some (.ref p), some (.ref o), po, none, none] ∧ Same H H', ?_, ?_⟩
  · refine ⟨dp1, _, a2, True.intro, fun od => ?_⟩
    have hne : dp2 ≠ dp1 := fun z => by
      rw [z, a2] at b2
      have e := Option.some.inj b2
      injection e with e
      have e := dS_inj e
      obtain ⟨x, hx⟩ := List.exists_mem_of_ne_nil _ G1.ne
      exact hdis x hx (e ▸ hx)
    have g1 : upd H dp1 (.frz od (.dK (dS (prV W1.pr) W1.N))) p = some (.ins (ga K "Web") dx1 [("_prices", .ref dp1), ("_beside", .ref db1)]) := by rw [upd_ne (ne_of a1 a2 (by intro z; cases z))]; exact a1
    have g2 : upd H dp1 (.frz od (.dK (dS (prV W1.pr) W1.N))) dp1 = some (.frz od (.dK (dS (prV W1.pr) W1.N))) := upd_same
    have g3 : upd H dp1 (.frz od (.dK (dS (prV W1.pr) W1.N))) o = some (.ins (ga K "Web") dx2 [("_prices", .ref dp2), ("_beside", .ref db2)]) := by rw [upd_ne (ne_of b1 a2 (by intro z; cases z))]; exact b1
    have g4 : upd H dp1 (.frz od (.dK (dS (prV W1.pr) W1.N))) dp2 = some (.dK (dS (prV W2.pr) W2.N)) := by rw [upd_ne hne]; exact b2
    have hfin := L2.Same.unlock (f := .frz od (.dK (dS (prV W1.pr) W1.N))) a2 (Same.refl _)
    generalize upd H dp1 (.frz od (.dK (dS (prV W1.pr) W1.N))) = H1 at g1 g2 g3 g4 hfin ⊢
    refine ⟨_, rfl, p, _, dx1, _, _, rfl, g1, T.c_Web, T.n_Web_prices, rfl, dp1, od, rfl, .inl ⟨_, g2, ?_⟩⟩
    refine for_it (walk_keys (d := dp1) (o := od) (kvs := dS (prV W1.pr) W1.N)) (fun i σ H' => ∃ po, σ = [some (.ref p), some (.ref o), po, none, none] ∧ H' = H1) ⟨none, rfl, rfl⟩ (fun i σ H' _ ⟨_, _, e⟩ => e ▸ g2) ?_ ?_
    · rintro i x σ H2 H3 hi ⟨po, rfl, rfl⟩ ⟨rfl, kk, vv, hk, rfl⟩
      obtain ⟨a, ha, rfl, _⟩ := dS_get hk
      refine ⟨_, rfl, _, rfl, o, _, dx2, _, _, rfl, g3, T.c_Web, T.n_Web_prices, rfl, dp2, none, rfl, dget_out (.inl g4) (hdis a (List.mem_of_getElem? ha)), _, rfl, iteF ?_⟩
      exact ⟨_, rfl, rfl⟩
    · rintro σ H2 ⟨po, rfl, rfl⟩
      exact ⟨g2, po, rfl, hfin⟩
  rintro σ H1 ⟨po, rfl, s1⟩
  have A1' := A1.same s1
  have A2' := A2.same s1
  -- len(self._prices) + len(other._prices) > MOST_PLACES
  refine ⟨_, rfl, p, _, dx1, _, _, rfl, s1 _ _ a1, T.c_Web, T.n_Web_prices, rfl, dp1, _, rfl, s1 _ _ a2, ?_⟩
  refine ⟨_, rfl, o, _, dx2, _, _, rfl, s1 _ _ b1, T.c_Web, T.n_Web_prices, rfl, dp2, _, rfl, s1 _ _ b2, _, _, rfl, rfl, _, _, rfl, rfl, _, rfl, ?_⟩
  rw [dS_length, dS_length, decide_eq_false (show ¬ ((40 : Int) < (W1.N.length : Int) + (W2.N.length : Int)) by omega)]
  refine iteF ?_
  -- ties = self.ties() + other.ties()
  refine ⟨_, rfl, p, dx1, _, rfl, s1 _ _ a1, rfl, ?_⟩
  unfold tNil
  refine ⟨p, W1, rfl, A1', G1, fun H2 q1 s2 hq1 hl1 => ?_⟩
  refine ⟨_, rfl, o, dx2, _, rfl, s2 _ _ (s1 _ _ b1), rfl, o, W2, rfl, A2'.same s2, G2, fun H3 q2 s3 hq2 hl2 => ?_⟩
  obtain ⟨t1, hp1, ht1⟩ := hl1.same s3
  obtain ⟨t2, hp2, ht2⟩ := hl2
  refine ⟨q1, q2, _, _, rfl, rfl, hp1, hp2, by rw [List.length_map, List.length_map, ht1.1, ht2.1]; exact small_le (by omega), fun q3 hq3 => ?_⟩
  have s4 : Same H (upd H3 q3 (.lst (t1.map vR ++ t2.map vR))) := ((s1.trans s2).trans s3).trans (Same.new hq3)
  have hL4 : LstT tieV (upd H3 q3 (.lst (t1.map vR ++ t2.map vR))) q3 (tiesOf W1 ++ tiesOf W2) := ⟨t1 ++ t2, by rw [upd_same, List.map_append], (ht1.append ht2).same (Same.new hq3)⟩
  generalize upd H3 q3 (.lst (t1.map vR ++ t2.map vR)) = H4 at s4 hL4 ⊢
  obtain ⟨ts, hp4, ht4⟩ := id hL4
  -- len(ties) > MOST_TIES
  refine ⟨_, rfl, _, _, rfl, .inl (SqL.of hp4), _, _, rfl, rfl, _, rfl, ?_⟩
  rw [List.length_map, ht4.1, List.length_append, decide_eq_false (show ¬ ((400 : Int) < ((((tiesOf W1).length + (tiesOf W2).length : Nat)) : Int)) by omega)]
  refine iteF ?_
  -- prices = {**self._prices, **other._prices}
  intro d hd
  have hnd : (W1.N ++ W2.N).Nodup := List.nodup_append.mpr ⟨G1.ok.nodup, G2.ok.nodup, fun x hx y hy e => hdis x hx (e ▸ hy)⟩
  have e1 : dS (prV W1.pr) W1.N = dS (prV fun a => if a ∈ W1.N then W1.pr a else W2.pr a) W1.N := dS_congr fun a ha => by unfold prV; dsimp only; rw [if_pos ha]
  have e2 : dS (prV W2.pr) W2.N = dS (prV fun a => if a ∈ W1.N then W1.pr a else W2.pr a) W2.N := dS_congr fun a ha => by unfold prV; dsimp only; rw [if_neg (fun z => hdis a z ha)]
  have c1 : (dS (prV W1.pr) W1.N) = mergeK [] (dS (prV W1.pr) W1.N) := (mergeK_app (l := []) (by rw [List.nil_append]; exact G1.ok.nodup)).symm
  have c2 : mergeK (dS (prV W1.pr) W1.N) (dS (prV W2.pr) W2.N) = dS (prV fun a => if a ∈ W1.N then W1.pr a else W2.pr a) (W1.N ++ W2.N) := by
    rw [e1, e2]
    exact mergeK_app hnd
  have u1 := Same.new (o := .dK []) hd
  refine ⟨_, rfl, p, _, dx1, _, _, rfl, u1 _ _ (s4 _ _ a1), T.c_Web, T.n_Web_prices, rfl, dp1, _, rfl, ne_of_none (s4 _ _ a2) hd, u1 _ _ (s4 _ _ a2), upd_same, ?_⟩
  rw [← c1, upd_upd]
  have u2 := Same.new (o := .dK (dS (prV W1.pr) W1.N)) hd
  refine ⟨_, rfl, o, _, dx2, _, _, rfl, u2 _ _ (s4 _ _ b1), T.c_Web, T.n_Web_prices, rfl, dp2, _, rfl, ne_of_none (s4 _ _ b2) hd, u2 _ _ (s4 _ _ b2), upd_same, by rw [dS_length, dS_length]; exact small_le (by omega), ?_⟩
  rw [upd_upd, c2]
  have s5 : Same H (upd H4 d (.dK (dS (prV fun a => if a ∈ W1.N then W1.pr a else W2.pr a) (W1.N ++ W2.N)))) := s4.trans (Same.new hd)
  have hL5 := hL4.same (Same.new (o := .dK (dS (prV fun a => if a ∈ W1.N then W1.pr a else W2.pr a) (W1.N ++ W2.N))) hd)
  have hd5 : upd H4 d (.dK (dS (prV fun a => if a ∈ W1.N then W1.pr a else W2.pr a) (W1.N ++ W2.N))) d = some (.dK (dS (prV fun a => if a ∈ W1.N then W1.pr a else W2.pr a) (W1.N ++ W2.N))) := upd_same
  generalize upd H4 d (.dK (dS (prV fun a => if a ∈ W1.N then W1.pr a else W2.pr a) (W1.N ++ W2.N))) = H5 at s5 hL5 hd5 ⊢
  -- return Web(tuple(prices), ties, prices)
  refine ⟨_, rfl, d, _, rfl, hd5, fun tp htp => ?_⟩
  rw [dS_keys]
  refine ⟨_, rfl, _, rfl, fun x dx hx hdx hxx => ?_⟩
  have s6 := Same.new (o := .tup ((W1.N ++ W2.N).map vS)) htp
  have hx' := s6.free hx
  have s7 : Same (upd H5 tp (.tup ((W1.N ++ W2.N).map vS))) (upd (upd (upd H5 tp (.tup ((W1.N ++ W2.N).map vS))) dx (.own x)) x (.ins (ga K "Web") dx [])) := (Same.new hdx).mut hx
  have TO : TiesOk (W1.N ++ W2.N) (tiesOf W1 ++ tiesOf W2) := ties_join G1.tiesOk G2.tiesOk hdis htl
  have hnm : ∀ a ∈ W1.N ++ W2.N, NameOk a := fun a ha => by
    rcases List.mem_append.mp ha with z | z
    · exact G1.name a z
    · exact G2.name a z
  have hpr : ∀ a ∈ W1.N ++ W2.N, 1 ≤ (if a ∈ W1.N then W1.pr a else W2.pr a) ∧ (if a ∈ W1.N then W1.pr a else W2.pr a) ≤ maxPrice := fun a ha => by
    by_cases c : a ∈ W1.N
    · rw [if_pos c]
      have := G1.ok.pos a c
      exact ⟨by omega, G1.le a c⟩
    · rw [if_neg c]
      have c2 := (List.mem_append.mp ha).resolve_left c
      have := G2.ok.pos a c2
      exact ⟨by omega, G2.le a c2⟩
  have h1 : 1 ≤ (W1.N ++ W2.N).length := by
    rw [List.length_append]
    have := List.length_pos_iff.mpr G1.ne
    omega
  refine ⟨_, x, dx, tp, q3, d, W1.N ++ W2.N, tiesOf W1 ++ tiesOf W2, fun a => if a ∈ W1.N then W1.pr a else W2.pr a, rfl, s7, hx, upd_same, upd_same, hL5.same s6, s6 _ _ hd5, h1, by rw [List.length_append]; omega, hnd, hnm, hpr, TO, fun H7 N s8 hN hs hW => ⟨rfl, ?_⟩⟩
  refine k _ x _ ((s5.trans s6).trans s8) ⟨hN, fun a ha => if_pos ha, fun a ha => if_neg fun z => hdis a z ha, fun a b => ?_⟩ (web_good hN hs TO (fun a ha => (hpr a ha).1) (fun a ha => (hpr a ha).2) hnm (by rw [List.length_append]; omega) (fun z => by rw [z] at h1; simp at h1)) hW
  show adjOf (tiesOf W1 ++ tiesOf W2) a b = _
  rw [adjOf_append, G1.adj_tiesOf, G2.adj_tiesOf]
end HW

set_option Elab.async false
set_option linter.all false
set_option maxRecDepth 100000
set_option maxHeartbeats 4000000
set_option pp.maxSteps 400
set_option pp.fieldNotation false
namespace HW
open PySem PySem.Spec PyProof.Rows L2 He
open C8 (Cal Met Mak pe_c pe_mk pe_mt pe_mt0 pe_gc InsC call_isC)
open HP
def spWithTie (C : Addr) : Sp := fun vs H Q _ => ∃ (p : Addr) (a b : Str) (W : WebD Str), vs = [.ref p, .str a, .str b] ∧ WebAt C H p W ∧ WebG W ∧ a ∈ W.N ∧ b ∈ W.N ∧ a ≠ b ∧ W.adj a b = false ∧
  ∀ H' q W', Same H H' → TieW W a b W' → WebG W' → WebAt C H' q W' → Q (.ref q) H'

theorem sc_Web_with_tie : FnScope ["self", "a", "b", "ties"] ["self", "a", "b"] (defScope s_Web_with_tie) := ⟨rfl, rfl, rfl, by decide +kernel, rfl, by decide +kernel, by decide +kernel⟩

theorem ok_Web_with_tie {P : Program} {w : World} {K : PySem.W.Frag} {mg : Str → Option Value} {base : Heap} (T : Txt K mg) (K_Web : Mak P w K mg base 4 "Web" (ga K "Web") (spWeb (ga K "Web")) []) (F_Web_ties : Met P w K mg base 1 (ga K "Web") "ties" (spTies (ga K "Web")) []) (F_Web_known : Met P w K mg base 1 (ga K "Web") "known" (spKnown (ga K "Web")) []) : Met P w K mg base 6 (ga K "Web") "with_tie" (spWithTie (ga K "Web")) [] := by
  refine met_of (D := d_Web_with_tie) (T.says.def_ 23 rfl) T.c_Web T.m_Web_with_tie (fun _ _ _ _ _ _ us hl => match us, hl with | [_, _, _], _ => rfl) sc_Web_with_tie (fun vs H Q E h => ?_) (fun cdv A outer s H vs Q E hr h => ?_)
  · obtain ⟨p, a, b, _, rfl, _⟩ := h
    rfl
  have hu := hu_of hr
  refine ⟨_, (pss_cons (ps_expr (pe_mt F_Web_known hr (by decide) (pv 0) (pa_cons (pv 1) pa_nil)))
    (pss_cons (ps_expr (pe_mt F_Web_known hr (by decide) (pv 0) (pa_cons (pv 2) pa_nil)))
    (pss_cons (ps_if (pt_cmpR op_eq (pv 1) (pv 2) (nomark _)) (pss_one (ps_never)) pss_nil)
    (pss_cons (ps_if (pt_cmpR op_in_seq (pv 2) (pe_dget hu (pe_fld (pv 0) (by rfl)) (pv 1) (fun _ _ => rfl)) rfl) (pss_one (ps_never)) pss_nil)
    (pss_cons (ps_set (i := 3) sc_Web_with_tie.nd rfl (Or.inl rfl) (pe_mt0 F_Web_ties hr (by decide) (pv 0)))
    (pss_cons (ps_if (pt_cmpR op_eq (pe_callB call_len_seq (by rfl) T.f_len (by decide +kernel) (pa_cons (pv 3) pa_nil)) (pe_gc rfl T.k_MOST_TIES) (nomark _)) (pss_one (ps_never)) pss_nil)
    (pss_one (ps_ret (pe_mk K_Web hr (by decide) rfl (pa_cons (pe_callTy (cr_tupleD rfl) (by rfl) T.f_tuple (by decide +kernel) (pa_cons (pe_fld (pv 0) (by rfl)) pa_nil)) (pa_cons (pe_op op_cat (pv 3) (pe_lst (pa_cons (pe_tup (pa_cons (pv 1) (pa_cons (pv 2) pa_nil))) pa_nil))) (pa_cons (pe_fld (pv 0) (by rfl)) pa_nil)))))))))))), ?_⟩
  obtain ⟨p, a, b, W, rfl, A1, G, ha, hb, hab, hadj, k⟩ := h
  obtain ⟨dx, dp, db, la, h1, h2, h3, h4⟩ := id A1.ex
  refine ⟨_, rfl, p, dx, _, rfl, h1, rfl, _, rfl, p, a, W, rfl, A1, ha, ?_⟩
  refine ⟨_, rfl, p, dx, _, rfl, h1, rfl, _, rfl, p, b, W, rfl, A1, hb, ?_⟩
  refine ⟨_, rfl, _, rfl, rfl, _, rfl, ?_⟩
  rw [decide_eq_false (fun z => hab (by injection z) : ¬ V.str a = V.str b)]
  refine iteF ?_
  have hnb : b ∉ W.N.filter (W.adj a) := fun z => by
    have := (List.mem_filter.mp z).2
    rw [hadj] at this
    cases this
  refine ⟨_, rfl, _, rfl, p, _, dx, _, _, rfl, h1, T.c_Web, T.n_Web_beside, rfl, _, rfl, db, _, rfl, dget_in (.inl h3) ha, la a, _, rfl, .inl (SqL.of (h4 a ha)), rfl, all_flat, false, ?_, iteF ?_⟩
  · rw [inV_str hnb]; rfl
  refine ⟨_, rfl, p, dx, _, rfl, h1, rfl, ?_⟩
  unfold tNil
  refine ⟨p, W, rfl, A1, G, fun H1 q s1 hq hl => ?_⟩
  obtain ⟨ts, hq1, hts⟩ := id hl
  have htl := tiesOf_length G
  refine ⟨_, rfl, _, _, rfl, .inl (SqL.of hq1), rfl, _, rfl, ?_⟩
  rw [decide_eq_false (fun z => by
    injection z with z
    rw [List.length_map, hts.1] at z
    omega : ¬ V.int ((ts.map vR).length : Nat) = V.int 400)]
  refine iteF ?_
  refine ⟨_, rfl, p, _, dx, _, _, rfl, s1 _ _ h1, T.c_Web, T.n_Web_prices, rfl, dp, _, rfl, s1 _ _ h2, fun tp htp => ?_⟩
  rw [dS_keys]
  have s2 : Same H (upd H1 tp (.tup (W.N.map vS))) := s1.trans (Same.new htp)
  have hq2 := (Same.new (o := .tup (W.N.map vS)) htp) _ _ hq1
  have hts2 := hts.same (Same.new (o := .tup (W.N.map vS)) htp)
  have htp2 : upd H1 tp (.tup (W.N.map vS)) tp = some (.tup (W.N.map vS)) := upd_same
  generalize upd H1 tp (.tup (W.N.map vS)) = H2 at s2 hq2 hts2 htp2 ⊢
  refine ⟨_, rfl, _, rfl, _, rfl, by show 2 ≤ sizeLine; decide, fun t ht => ?_⟩
  have ht3 : upd H2 t (.tup [V.str a, V.str b]) t = some (.tup (tieV (a, b))) := upd_same
  have s3 : Same H2 (upd H2 t (.tup [V.str a, V.str b])) := Same.new ht
  generalize upd H2 t (.tup [V.str a, V.str b]) = H3 at ht3 s3 ⊢
  refine ⟨by show 1 ≤ sizeLine; decide, fun l hl => ?_⟩
  have hl4 : upd H3 l (.lst [V.ref t]) l = some (.lst ([t].map vR)) := upd_same
  have s4 : Same H3 (upd H3 l (.lst [V.ref t])) := Same.new hl
  generalize upd H3 l (.lst [V.ref t]) = H4 at hl4 s4 ⊢
  have ht4 : TupsAt tieV H4 [t] [(a, b)] := ⟨rfl, fun i x y e1 e2 => by
    match i, e1, e2 with
    | 0, e1, e2 =>
      have e1 := Option.some.inj e1
      have e2 := Option.some.inj e2
      subst e1; subst e2
      exact s4 _ _ ht3
    | n + 1, e1, e2 => simp at e1⟩
  refine ⟨q, l, _, _, rfl, rfl, s4 _ _ (s3 _ _ hq2), hl4, by rw [List.length_map, hts.1]; exact small_le (by show (tiesOf W).length + 1 ≤ 100000; omega), fun q3 hq3 => ?_⟩
  have s5 : Same H4 (upd H4 q3 (.lst (ts.map vR ++ [t].map vR))) := Same.new hq3
  have hL5 : LstT tieV (upd H4 q3 (.lst (ts.map vR ++ [t].map vR))) q3 (tiesOf W ++ [(a, b)]) := ⟨ts ++ [t], by rw [upd_same, List.map_append], ((hts2.same (s3.trans s4)).append ht4).same s5⟩
  generalize upd H4 q3 (.lst (ts.map vR ++ [t].map vR)) = H5 at s5 hL5 ⊢
  have s25 : Same H2 H5 := (s3.trans s4).trans s5
  have s05 : Same H H5 := s2.trans s25
  refine ⟨_, rfl, p, _, dx, _, _, rfl, s05 _ _ h1, T.c_Web, T.n_Web_prices, rfl, fun x ex hx hex hxx => ?_⟩
  have TO : TiesOk W.N (tiesOf W ++ [(a, b)]) := ties_snoc G.tiesOk ha hb hab (by rw [G.adj_tiesOf]; exact hadj) (by omega)
  have s7 : Same H5 (upd (upd H5 ex (.own x)) x (.ins (ga K "Web") ex [])) := (Same.new hex).mut hx
  refine ⟨H5, x, ex, tp, q3, dp, W.N, tiesOf W ++ [(a, b)], W.pr, rfl, s7, hx, upd_same, s25 _ _ htp2, hL5, s05 _ _ h2, List.length_pos_iff.mpr G.ne, by have := G.len; omega, G.ok.nodup, G.name, fun a ha => ⟨by have := G.ok.pos a ha; omega, G.le a ha⟩, TO, fun H7 N s8 hN hs hW => ⟨rfl, ?_⟩⟩
  obtain rfl : N = W.N := sorted_unique hs G.sorted hN
  refine k _ x ⟨W.N, W.pr, adjOf (tiesOf W ++ [(a, b)])⟩ (s05.trans s8) ⟨rfl, rfl, fun u v => ?_⟩ (web_good hN hs TO (fun a ha => by have := G.ok.pos a ha; omega) G.le G.name G.len G.ne) hW
  show adjOf (tiesOf W ++ [(a, b)]) u v = true ↔ _
  rw [adjOf_append, G.adj_tiesOf, Bool.or_eq_true, adjOf_iff]
  simp only [List.mem_singleton, Prod.mk.injEq]
  constructor
  · rintro (z | z | z)
    · exact .inl z
    · exact .inr (.inl z)
    · exact .inr (.inr ⟨z.2, z.1⟩)
  · rintro (z | z | z)
    · exact .inl z
    · exact .inr (.inl z)
    · exact .inr (.inr ⟨z.2, z.1⟩)
end HW

set_option Elab.async false
set_option linter.all false
set_option maxRecDepth 100000
set_option maxHeartbeats 4000000
set_option pp.maxSteps 400
set_option pp.fieldNotation false
namespace HW
open PySem PySem.Spec PyProof.Rows L2 He
open C8 (Cal Met Mak pe_c pe_mk pe_mt pe_mt0 pe_gc InsC call_isC)
open HP
/-! ### the arcs of a web's network -/
def arcs2 (F : List Str) (q : Tie) : List (Nat × Nat) := [(idx q.1 F, F.length + idx q.2 F), (idx q.2 F, F.length + idx q.1 F)]
def arcsT (F : List Str) (ties : List Tie) : List (Nat × Nat) := ties.flatMap fun q => if q.1 ∈ F ∧ q.2 ∈ F then arcs2 F q else []
def arcsH (F : List Str) (half : Str → Bool) : List (Nat × Nat) := (F.filter half).map fun a => (idx a F, F.length + idx a F)
theorem arc_spec {W : WebD Str} (G : WebG W) {F : List Str} (hF : F.Nodup) (hsub : ∀ a ∈ F, a ∈ W.N) (half : Str → Bool) : ArcSpec F W.adj half (arcsT F (tiesOf W) ++ arcsH F half) := by
  refine ⟨fun q hq => ?_, fun i j a b hi hj hab => ?_, fun i a hi ha => ?_⟩
  · rcases List.mem_append.mp hq with z | z
    · unfold arcsT at z
      obtain ⟨t, ht, z⟩ := List.mem_flatMap.mp z
      have hm := mem_tiesOf.mp ht
      by_cases c : t.1 ∈ F ∧ t.2 ∈ F
      · rw [if_pos c] at z
        unfold arcs2 at z
        rcases List.mem_cons.mp z with rfl | z
        · exact ⟨_, _, t.1, t.2, idx_get c.1, idx_get c.2, rfl, .inl hm.2.2.1⟩
        · rw [List.mem_singleton.mp z]
          exact ⟨_, _, t.2, t.1, idx_get c.2, idx_get c.1, rfl, .inl (by rw [G.ok.symm]; exact hm.2.2.1)⟩
      · rw [if_neg c] at z
        cases z
    · unfold arcsH at z
      obtain ⟨a, ha, rfl⟩ := List.mem_map.mp z
      have ha := List.mem_filter.mp ha
      exact ⟨_, _, a, a, idx_get ha.1, idx_get ha.1, rfl, .inr ⟨rfl, ha.2⟩⟩
  · refine List.mem_append.mpr (.inl ?_)
    have ha := List.mem_of_getElem? hi
    have hb := List.mem_of_getElem? hj
    have e1 := idx_of hF hi
    have e2 := idx_of hF hj
    have hne : a ≠ b := fun e => by
      rw [e, G.ok.irr] at hab
      cases hab
    unfold arcsT
    refine List.mem_flatMap.mpr ?_
    rcases slt_or hne with c | c
    · refine ⟨(a, b), mem_tiesOf.mpr ⟨hsub a ha, hsub b hb, hab, c⟩, ?_⟩
      rw [if_pos ⟨ha, hb⟩]
      unfold arcs2
      rw [e1, e2]
      exact List.mem_cons_self ..
    · refine ⟨(b, a), mem_tiesOf.mpr ⟨hsub b hb, hsub a ha, by rw [G.ok.symm]; exact hab, c⟩, ?_⟩
      rw [if_pos ⟨hb, ha⟩]
      unfold arcs2
      rw [e1, e2]
      exact List.mem_cons_of_mem _ (List.mem_cons_self ..)
  · refine List.mem_append.mpr (.inr ?_)
    have ham := List.mem_of_getElem? hi
    unfold arcsH
    refine List.mem_map.mpr ⟨a, List.mem_filter.mpr ⟨ham, ha⟩, ?_⟩
    rw [idx_of hF hi]
theorem arcsT_length {F : List Str} : ∀ {ties : List Tie}, (arcsT F ties).length ≤ 2 * ties.length
  | [] => Nat.le_refl _
  | q :: r => by
    have ih := arcsT_length (F := F) (ties := r)
    unfold arcsT at ih ⊢
    rw [List.flatMap_cons, List.length_append, List.length_cons]
    have h1 : (if q.1 ∈ F ∧ q.2 ∈ F then arcs2 F q else []).length ≤ 2 := by
      split
      · exact Nat.le_refl _
      · exact Nat.zero_le _
    omega
theorem arcsT_snoc {F : List Str} {ties : List Tie} {q : Tie} : arcsT F (ties ++ [q]) = arcsT F ties ++ (if q.1 ∈ F ∧ q.2 ∈ F then arcs2 F q else []) := by
  unfold arcsT
  rw [List.flatMap_append]
  simp
theorem arcsT_in {F : List Str} {ties : List Tie} {q : Tie} (h1 : q.1 ∈ F) (h2 : q.2 ∈ F) : arcsT F (ties ++ [q]) = (arcsT F ties ++ [(idx q.1 F, F.length + idx q.2 F)]) ++ [(idx q.2 F, F.length + idx q.1 F)] := by
  rw [arcsT_snoc, if_pos ⟨h1, h2⟩, List.append_assoc]
  rfl
/-- a tuple is made and put at a list's end -/
theorem TupsAt.push {α : Type} {f : α → List V} {H : Hp} {ts : List Addr} {xs : List α} {aq t : Addr} {q : α} (h1 : H aq = some (.lst (ts.map vR))) (h : TupsAt f H ts xs) (ht : H t = none) {ws : List V} (hw : ws = f q) :
    upd (upd H t (.tup ws)) aq (.lst (ts.map vR ++ [V.ref t])) aq = some (.lst ((ts ++ [t]).map vR)) ∧ TupsAt f (upd (upd H t (.tup ws)) aq (.lst (ts.map vR ++ [V.ref t]))) (ts ++ [t]) (xs ++ [q]) := by
  subst hw
  refine ⟨by rw [upd_same, List.map_append]; rfl, ?_⟩
  have hta : t ≠ aq := Ne.symm (ne_of_none h1 ht)
  have h3 := (h.same (Same.new (o := .tup (f q)) ht)).snoc (a := t) (q := q) upd_same
  refine ⟨h3.1, fun i a y e1 e2 => ?_⟩
  have := h3.2 i a y e1 e2
  rw [upd_ne (ne_of this (by rw [upd_ne (Ne.symm hta)]; exact h1) (by intro z; cases z))]
  exact this
theorem arcV_eq (i n j : Nat) : [V.int (i : Int), V.int ((n : Int) + (j : Int))] = arcV (i, n + j) := by
  unfold arcV vN
  rw [Int.natCast_add]
/-- a network of the places F stands at q -/
structure NetOf (C : Addr) (H' : Hp) (q : Addr) (F : List Str) (adj : Str → Str → Bool) (half : Str → Bool) (pr : Str → Int) (t : Int) : Prop where
  ex : ∃ H0 r c A, NetSt C H0 H' q (F.map pr).length (netE (F.map pr) A) r (netTl t c) ∧ Full (netE (F.map pr) A) (2 * (F.map pr).length) (2 * (F.map pr).length + 1) r t ∧ ArcSpec F adj half A ∧ A.length ≤ 1500
theorem NetOf.tot {C : Addr} {H' : Hp} {q : Addr} {F : List Str} {adj : Str → Str → Bool} {half : Str → Bool} {pr : Str → Int} {t : Int} (h : NetOf C H' q F adj half pr t) : ∃ dx fs, H' q = some (.ins C dx fs) ∧ fs.lookup ("total" : Str) = some (.int t) ∧ fs.lookup ("many" : Str) = some (.int (F.length : Nat)) := by
  obtain ⟨H0, r, c, A, ⟨_, dx, hl, rl, el, ls, G, _⟩, _⟩ := h.ex
  refine ⟨dx, _, G.ins, rfl, ?_⟩
  have := nf_many (n := (F.map pr).length) (hl := hl) (rl := rl) (el := el) (tl := netTl t c)
  rw [List.length_map] at this ⊢
  exact this
def vIx (F : List Str) (a : Str) : V := vN (idx a F)
def spNetOf (C CN : Addr) : Sp := fun vs H Q _ => ∃ (p : Addr) (W : WebD Str), vs = [.ref p] ∧ WebAt C H p W ∧ WebG W ∧ ∀ H' q t, Same H H' → NetOf CN H' q W.N W.adj (fun _ => false) W.pr t → Q (.ref q) H'

theorem sc_net_of : FnScope ["web", "places", "at", "arcs", "a", "b", "k", "place"] ["web"] (defScope s_net_of) := ⟨rfl, rfl, rfl, by decide +kernel, rfl, by decide +kernel, by decide +kernel⟩

theorem ok_net_of {P : Program} {w : World} {K : PySem.W.Frag} {mg : Str → Option Value} {base : Heap} (T : Txt K mg) (K_Net : Mak P w K mg base 3 "Net" (ga K "Net") (spNet (ga K "Net")) []) (F_Web_ties : Met P w K mg base 1 (ga K "Web") "ties" (spTies (ga K "Web")) []) (F_Web_places : Met P w K mg base 1 (ga K "Web") "places" (spPlaces (ga K "Web")) []) (F_Web_price : Met P w K mg base 2 (ga K "Web") "price" (spPriceOf (ga K "Web")) []) : Cal P w K mg base 5 "net_of" (spNetOf (ga K "Web") (ga K "Net")) [] := by
  refine cal_of (D := d_net_of) (T.says.def_ 24 rfl) T.g_net_of (fun _ _ _ _ _ _ us hl => match us, hl with | [_], _ => rfl) sc_net_of (fun vs H Q E h => ?_) (fun cdv A outer s H vs Q E hr h => ?_)
  · obtain ⟨p, _, rfl, _⟩ := h
    rfl
  have hu := hu_of hr
  refine ⟨_, (pss_cons (ps_set (i := 1) sc_net_of.nd rfl (Or.inl rfl) (pe_mt0 F_Web_places hr (by decide) (pv 0)))
    (pss_cons (ps_setDc (i := 2) rfl sc_net_of.nd rfl rfl (sw_trueD rfl rfl rfl (by decide +kernel)) (pi_enum (by rfl) T.f_enumerate (pa_cons (pv 1) pa_nil)) (blkOk_by (N := ["web", "places", "at", "arcs", "a", "b", "k", "place"]) (sc := defScope s_net_of) (own := [("k", 6), ("place", 7)]) (by decide +kernel)) (fun _ _ _ _ _ => (pg_tup_k (K := K) (n := 2) rfl rfl (pgs_cons (pg_name (i := 6) sc_net_of.nd rfl (Or.inl rfl)) (pgs_cons (pg_name (i := 7) sc_net_of.nd rfl (Or.inl rfl)) pgs_nil)))) (fun _ _ _ _ _ => pts_nil) (fun _ _ _ _ _ => (pv 7)) (fun _ _ _ _ _ => (pv 6)))
    (pss_cons (ps_set (i := 3) sc_net_of.nd rfl (Or.inl rfl) (pe_lst pa_nil))
    (C8.pss_cut (ps_for PassesOwn.never rfl (pi_list (pe_mt0 F_Web_ties hr (by decide) (pv 0))) (pg_tup rfl (pgs_cons (pg_name (i := 4) sc_net_of.nd rfl (Or.inl rfl)) (pgs_cons (pg_name (i := 5) sc_net_of.nd rfl (Or.inl rfl)) pgs_nil))) (pss_cons (ps_expr (pe_bm PySem.F.plainAttrs_list PySem.F.slot_list_append PySem.F.type_list_append mt_append (pv 3) (pa_cons (pe_tup (pa_cons (pe_dget hu (pv 2) (pv 4) (fun _ _ => rfl)) (pa_cons (pe_op op_add (pe_callB call_len_seq (by rfl) T.f_len (by decide +kernel) (pa_cons (pv 1) pa_nil)) (pe_dget hu (pv 2) (pv 5) (fun _ _ => rfl))) pa_nil))) pa_nil)))
    (pss_one (ps_expr (pe_bm PySem.F.plainAttrs_list PySem.F.slot_list_append PySem.F.type_list_append mt_append (pv 3) (pa_cons (pe_tup (pa_cons (pe_dget hu (pv 2) (pv 5) (fun _ _ => rfl)) (pa_cons (pe_op op_add (pe_callB call_len_seq (by rfl) T.f_len (by decide +kernel) (pa_cons (pv 1) pa_nil)) (pe_dget hu (pv 2) (pv 4) (fun _ _ => rfl))) pa_nil))) pa_nil))))))
    (pss_one (ps_ret (pe_mk K_Net hr (by decide) rfl (pa_cons (pe_lc rfl sc_net_of.nd (pi_list (pv 1)) (blkOk_by (N := ["web", "places", "at", "arcs", "a", "b", "k", "place"]) (sc := defScope s_net_of) (own := [("place", 7)]) (by decide +kernel)) (fun _ _ _ _ _ => (pg_name (i := 7) sc_net_of.nd rfl (Or.inl rfl))) (fun _ _ _ _ _ => pts_nil) (fun _ _ _ _ _ => (pe_mt F_Web_price hr (by decide) (pv 0) (pa_cons (pv 7) pa_nil)))) (pa_cons (pv 3) pa_nil))))))))), ?_⟩
  obtain ⟨p, W, rfl, A0, G, k⟩ := h
  obtain ⟨dx, dp, db, la, h1, h2, h3, h4⟩ := id A0.ex
  have hN28 := G.len
  have hnd := G.ok.nodup
  -- places = web.places()
  refine ⟨_, rfl, p, dx, _, rfl, h1, rfl, ?_⟩
  unfold tNil
  refine ⟨p, W, rfl, A0, fun q hq => ?_⟩
  have s1 : Same H (upd H q (.lst (W.N.map vS))) := Same.new hq
  have hq1 : upd H q (.lst (W.N.map vS)) q = some (.lst (W.N.map vS)) := upd_same
  generalize upd H q (.lst (W.N.map vS)) = H1 at s1 hq1 ⊢
  -- at = {place: k for k, place in enumerate(places)}
  refine ⟨_, rfl, q, _, rfl, SqL.of hq1, fun ap hap => ?_⟩
  refine dc_it (walk_enum (K := K) (a := q) (xs := W.N.map vS)) (fun i H' => Same H1 H' ∧ H' ap = some (.dK (dS (vIx W.N) (W.N.take i)))) ⟨Same.new hap, upd_same⟩ (fun i H' _ e => SqL.of (e.1 _ _ hq1)) ?_ ?_
  · rintro i x H2 H3 hi ⟨s2, ha2⟩ ⟨tp, x1, x2, rfl, htp, rfl, e1, e2⟩
    cases e1
    obtain ⟨a, ha, rfl⟩ := str_get e2
    have s3 : Same H2 (upd H2 tp (.tup [V.int (i : Nat), V.str a])) := Same.new htp
    have ei : V.int (i : Nat) = vIx W.N a := by unfold vIx vN; rw [idx_of hnd ha]
    refine ⟨tp, _, rfl, .inl (.inl upd_same), rfl, _, _, rfl, _, _, rfl, rfl, rfl, _, rfl, _, rfl, _, Sum.inr a, rfl, s3 _ _ ha2, by rw [dS_length, List.length_take]; exact small_lt (by omega), (s2.trans s3).mut hap, ?_⟩
    rw [upd_same, ei, putS_new (nodup_take_get hnd ha), take_succ_get ha]
  rintro H2 ⟨s2, ha2⟩
  rw [List.length_map, List.take_length] at ha2
  -- arcs = []
  refine ⟨by show 0 ≤ sizeLine; decide, fun aq haq => ?_⟩
  have t2 := s1.trans s2
  have s3 : Same H2 (upd H2 aq (.lst [])) := Same.new haq
  have hq3 := s3 _ _ (s2 _ _ hq1)
  have ha3 := s3 _ _ ha2
  have haq0 : H aq = none := t2.free haq
  have t3 := t2.trans s3
  have hr3 : upd H2 aq (.lst []) aq = some (.lst ([].map vR)) := upd_same
  generalize upd H2 aq (.lst []) = H3 at s3 hq3 ha3 t3 hr3 ⊢
  -- for a, b in web.ties()
  refine ⟨fun σ H' => ∃ ao bo ts, σ = [some (.ref p), some (.ref q), some (.ref ap), some (.ref aq), ao, bo, none, none] ∧ Same H H' ∧ H' q = some (.lst (W.N.map vS)) ∧ H' aq = some (.lst (ts.map vR)) ∧ TupsAt arcV H' ts (arcsT W.N (tiesOf W)), ?_, ?_⟩
  · refine ⟨_, rfl, p, dx, _, rfl, t3 _ _ h1, rfl, p, W, rfl, A0.same t3, G, fun H4 tl s4 htl hL => ?_⟩
    obtain ⟨us, htl4, hus⟩ := hL
    have t4 := t3.trans s4
    have htl0 : aq ≠ tl := ne_of_none hr3 htl
    refine ⟨tl, rfl, ⟨_, SqL.of htl4⟩, ?_⟩
    have hqa : q ≠ aq := by
      intro z
      rw [z] at hq1
      exact absurd rfl (ne_of_none (s2 _ _ hq1) haq)
    have hpa : ap ≠ aq := ne_of_none ha2 haq
    refine for_list (K := K) (a := tl) (xs := us.map vR) (fun i σ H' => ∃ ao bo ts, σ = [some (.ref p), some (.ref q), some (.ref ap), some (.ref aq), ao, bo, none, none] ∧ Same H H' ∧ H' q = some (.lst (W.N.map vS)) ∧ H' ap = some (.dK (dS (vIx W.N) W.N)) ∧ H' tl = some (.lst (us.map vR)) ∧ TupsAt tieV H' us (tiesOf W) ∧ H' aq = some (.lst (ts.map vR)) ∧ TupsAt arcV H' ts (arcsT W.N ((tiesOf W).take i)))
      ⟨none, none, [], rfl, t4, s4 _ _ hq3, s4 _ _ ha3, htl4, hus, s4 _ _ hr3, TupsAt.nil⟩ (fun i σ H' _ ⟨_, _, _, _, _, _, _, h, _⟩ => SqL.of h) ?_ ?_
    · rintro i x σ H5 hx ⟨ao, bo, ts, rfl, s5, hq5, ha5, ht5, hu5, hr5, hts⟩
      obtain ⟨u, z, _, hz, rfl, hu⟩ := hu5.get hx
      have hzm := mem_tiesOf.mp (List.mem_of_getElem? hz)
      have hsz : ts.length ≤ 756 := by
        rw [hts.1]
        have h1 := arcsT_length (F := W.N) (ties := (tiesOf W).take i)
        have h2 := tiesOf_length G
        rw [List.length_take] at h1
        omega
      refine ⟨u, _, rfl, .inl (.inl hu), rfl, _, _, rfl, _, _, rfl, rfl, ?_⟩
      -- arcs.append((at[a], len(places) + at[b]))
      refine ⟨_, rfl, .inl ⟨rfl, _, SqL.of hr5⟩, _, rfl, _, rfl, ap, _, rfl, dget_in (.inl ha5) hzm.1, _, rfl, _, _, rfl, .inl (SqL.of hq5), _, rfl, _, rfl, ap, _, rfl, dget_in (.inl ha5) hzm.2.1, _, _, rfl, rfl, by show 2 ≤ sizeLine; decide, fun t ht => ?_⟩
      have n1 := (Same.new (o := .tup [vIx W.N z.1, V.int ((((W.N.map vS).length : Nat) : Int) + ((idx z.2 W.N : Nat) : Int))]) ht)
      refine ⟨_, _, _, rfl, rfl, n1 _ _ hr5, by rw [List.length_map]; exact small_lt (by omega), ?_⟩
      have hp := TupsAt.push (q := (idx z.1 W.N, W.N.length + idx z.2 W.N)) hr5 hts ht (ws := [vIx W.N z.1, V.int ((((W.N.map vS).length : Nat) : Int) + ((idx z.2 W.N : Nat) : Int))]) (by rw [List.length_map]; exact arcV_eq _ _ _)
      have hA := fun (b : Addr) (o : HO) (e : H5 b = some o) (ne : b ≠ aq) => (show upd (upd H5 t (.tup [vIx W.N z.1, V.int ((((W.N.map vS).length : Nat) : Int) + ((idx z.2 W.N : Nat) : Int))])) aq (.lst (ts.map vR ++ [V.ref t])) b = some o by rw [upd_ne ne]; exact n1 _ _ e)
      have s6 : Same H (upd (upd H5 t (.tup [vIx W.N z.1, V.int ((((W.N.map vS).length : Nat) : Int) + ((idx z.2 W.N : Nat) : Int))])) aq (.lst (ts.map vR ++ [V.ref t]))) := (s5.trans n1).mut haq0
      generalize upd (upd H5 t (.tup [vIx W.N z.1, V.int ((((W.N.map vS).length : Nat) : Int) + ((idx z.2 W.N : Nat) : Int))])) aq (.lst (ts.map vR ++ [V.ref t])) = H6 at hp hA s6 ⊢
      have hq6 := hA _ _ hq5 hqa
      have ha6 := hA _ _ ha5 hpa
      have ht6 := hA _ _ ht5 (Ne.symm htl0)
      have hu6 : TupsAt tieV H6 us (tiesOf W) := ⟨hu5.1, fun i a y e1 e2 => hA _ _ (hu5.2 i a y e1 e2) (ne_of (hu5.2 i a y e1 e2) hr5 (by intro z; cases z))⟩
      -- arcs.append((at[b], len(places) + at[a]))
      refine ⟨_, rfl, .inl ⟨rfl, _, SqL.of hp.1⟩, _, rfl, _, rfl, ap, _, rfl, dget_in (.inl ha6) hzm.2.1, _, rfl, _, _, rfl, .inl (SqL.of hq6), _, rfl, _, rfl, ap, _, rfl, dget_in (.inl ha6) hzm.1, _, _, rfl, rfl, by show 2 ≤ sizeLine; decide, fun t2 ht2 => ?_⟩
      have n2 := (Same.new (o := .tup [vIx W.N z.2, V.int ((((W.N.map vS).length : Nat) : Int) + ((idx z.1 W.N : Nat) : Int))]) ht2)
      refine ⟨_, _, _, rfl, rfl, n2 _ _ hp.1, by rw [List.length_map, List.length_append]; exact small_lt (by show ts.length + 1 < 100000; omega), ?_⟩
      have hp2 := TupsAt.push (q := (idx z.2 W.N, W.N.length + idx z.1 W.N)) hp.1 hp.2 ht2 (ws := [vIx W.N z.2, V.int ((((W.N.map vS).length : Nat) : Int) + ((idx z.1 W.N : Nat) : Int))]) (by rw [List.length_map]; exact arcV_eq _ _ _)
      have hB := fun (b : Addr) (o : HO) (e : H6 b = some o) (ne : b ≠ aq) => (show upd (upd H6 t2 (.tup [vIx W.N z.2, V.int ((((W.N.map vS).length : Nat) : Int) + ((idx z.1 W.N : Nat) : Int))])) aq (.lst ((ts ++ [t]).map vR ++ [V.ref t2])) b = some o by rw [upd_ne ne]; exact n2 _ _ e)
      refine ⟨_, _, (ts ++ [t]) ++ [t2], rfl, (s6.trans n2).mut haq0, hB _ _ hq6 hqa, hB _ _ ha6 hpa, hB _ _ ht6 (Ne.symm htl0), ⟨hu6.1, fun i a y e1 e2 => hB _ _ (hu6.2 i a y e1 e2) (ne_of (hu6.2 i a y e1 e2) hp.1 (by intro z; cases z))⟩, hp2.1, ?_⟩
      rw [take_succ_get hz, arcsT_in hzm.1 hzm.2.1]
      exact hp2.2
    · rintro σ H5 ⟨ao, bo, ts, rfl, s5, hq5, ha5, ht5, hu5, hr5, hts⟩
      rw [List.length_map, hus.1, List.take_length] at hts
      exact ⟨ao, bo, ts, rfl, s5, hq5, hr5, hts⟩
  rintro σ H5 ⟨ao, bo, ts, rfl, s5, hq5, hr5, hts⟩
  -- return Net([web.price(place) for place in places], arcs)
  refine ⟨_, rfl, q, rfl, ⟨_, SqL.of hq5⟩, fun L hL => ?_⟩
  refine lc_list (K := K) (a := q) (xs := W.N.map vS) (fun i H' => H' = upd H5 L (.lst (((W.N.take i).map W.pr).map vI))) (by rw [List.take_zero]; rfl) (fun i H' _ e => by
      subst e
      exact SqL.of ((Same.new hL) _ _ hq5)) ?_ ?_
  · rintro i x H6 hx rfl
    obtain ⟨a, ha, rfl⟩ := str_get hx
    have s6 := s5.trans (Same.new (o := .lst (((W.N.take i).map W.pr).map vI)) hL)
    refine ⟨rfl, _, rfl, p, dx, _, rfl, s6 _ _ h1, rfl, _, rfl, p, a, W, rfl, A0.same s6, List.mem_of_getElem? ha, _, upd_same, by rw [List.length_map, List.length_map, List.length_take]; exact small_lt (by omega), ?_⟩
    rw [upd_upd, take_succ_get ha, List.map_append, List.map_append]
    rfl
  rintro H6 rfl
  rw [List.length_map, List.take_length]
  have s6 : Same H5 (upd H5 L (.lst ((W.N.map W.pr).map vI))) := Same.new hL
  have hL6 : upd H5 L (.lst ((W.N.map W.pr).map vI)) L = some (.lst ((W.N.map W.pr).map vI)) := upd_same
  generalize upd H5 L (.lst ((W.N.map W.pr).map vI)) = H6 at s6 hL6 ⊢
  refine ⟨_, rfl, fun x ex hx hex hxx => ?_⟩
  have s7 : Same H6 (upd (upd H6 ex (.own x)) x (.ins (ga K "Net") ex [])) := (Same.new hex).mut hx
  have hsp := arc_spec G hnd (fun a h => h) (fun _ => false)
  have e0 : arcsH W.N (fun _ => false) = [] := by unfold arcsH; simp
  rw [e0, List.append_nil] at hsp
  have hAl := arcsT_length (F := W.N) (ties := tiesOf W)
  have htl := tiesOf_length G
  refine ⟨H6, x, ex, L, aq, W.N.map W.pr, arcsT W.N (tiesOf W), rfl, s7, hx, upd_same, hL6, ⟨ts, s6 _ _ hr5, hts.same s6⟩, fun y hy => ?_, by rw [List.length_map]; exact hsp.arcsIn, by rw [List.length_map]; omega, by omega, fun H8 r t c hN hF => ⟨rfl, ?_⟩⟩
  · obtain ⟨a, ha, rfl⟩ := List.mem_map.mp hy
    have := G.ok.pos a ha
    omega
  · exact k _ x t ((s5.trans s6).trans hN.1) ⟨H6, r, c, _, hN, hF, hsp, by omega⟩
end HW

set_option Elab.async false
set_option linter.all false
set_option maxRecDepth 100000
set_option maxHeartbeats 4000000
set_option pp.maxSteps 400
set_option pp.fieldNotation false
namespace HW
open PySem PySem.Spec PyProof.Rows L2 He
open C8 (Cal Met Mak pe_c pe_mk pe_mt pe_mt0 pe_gc InsC call_isC)
open HP
theorem NetOf.least {C : Addr} {H' : Hp} {q : Addr} {F : List Str} {adj : Str → Str → Bool} {half : Str → Bool} {pr : Str → Int} {t : Int} (h : NetOf C H' q F adj half pr t) (hF : F.Nodup) (hs : ∀ a b, adj a b = adj b a) (hp : ∀ a ∈ F, 0 ≤ pr a) : GLeast F adj half pr (fun _ => True) t := by
  obtain ⟨H0, r, c, A, _, hFull, hA, _⟩ := h.ex
  refine Least.gleast hF hs hA (hFull.least (fun x hx => ?_) ?_)
  · obtain ⟨a, ha, rfl⟩ := List.mem_map.mp hx
    exact hp a ha
  · rw [List.length_map]
    exact hA.arcsIn
theorem WebG.pr0 {W : WebD Str} (G : WebG W) : ∀ a ∈ W.N, 0 ≤ W.pr a := fun a ha => by
  have := G.ok.pos a ha
  omega
def spWorth (C : Addr) : Sp := fun vs H Q _ => ∃ (p : Addr) (W : WebD Str), vs = [.ref p] ∧ WebAt C H p W ∧ WebG W ∧ ∀ H' t, Same H H' → W.Worth t → Q (.int t) H'

theorem sc_worth : FnScope ["web"] ["web"] (defScope s_worth) := ⟨rfl, rfl, rfl, by decide +kernel, rfl, by decide +kernel, by decide +kernel⟩

theorem ok_worth {P : Program} {w : World} {K : PySem.W.Frag} {mg : Str → Option Value} {base : Heap} (T : Txt K mg) (F_net_of : Cal P w K mg base 5 "net_of" (spNetOf (ga K "Web") (ga K "Net")) []) : Cal P w K mg base 6 "worth" (spWorth (ga K "Web")) [] := by
  refine cal_of (D := d_worth) (T.says.def_ 26 rfl) T.g_worth (fun _ _ _ _ _ _ us hl => match us, hl with | [_], _ => rfl) sc_worth (fun vs H Q E h => ?_) (fun cdv A outer s H vs Q E hr h => ?_)
  · obtain ⟨p, _, rfl, _⟩ := h
    rfl
  have hu := hu_of hr
  refine ⟨_, (pss_one (ps_ret (pe_fld (pe_c F_net_of hr (by decide) rfl (pa_cons (pv 0) pa_nil)) (by rfl)))), ?_⟩
  obtain ⟨p, W, rfl, A0, G, k⟩ := h
  refine ⟨_, rfl, p, W, rfl, A0, G, fun H1 q t s1 N => ?_⟩
  obtain ⟨dx, fs, e1, e2, _⟩ := N.tot
  exact ⟨q, _, dx, fs, _, rfl, e1, T.c_Net, T.n_Net_total, e2, k _ t s1 (N.least G.ok.nodup G.ok.symm G.pr0)⟩
def spCan (C : Addr) : Sp := fun vs H Q _ => ∃ (p : Addr) (a : Str) (v : Int) (W : WebD Str), vs = [.ref p, .str a, .int v] ∧ WebAt C H p W ∧ WebG W ∧ a ∈ W.N ∧ 0 ≤ v ∧ v ≤ 2 ∧ ∀ H' b, Same H H' → (b = true ↔ W.Can a v) → Q (.bl b) H'

theorem sc_can : FnScope ["web", "place", "x"] ["web", "place", "x"] (defScope s_can) := ⟨rfl, rfl, rfl, by decide +kernel, rfl, by decide +kernel, by decide +kernel⟩

theorem ok_can {P : Program} {w : World} {K : PySem.W.Frag} {mg : Str → Option Value} {base : Heap} (T : Txt K mg) (F_net_of : Cal P w K mg base 5 "net_of" (spNetOf (ga K "Web") (ga K "Net")) []) (F_is_value : Cal P w K mg base 2 "is_value" spIsValue []) (F_may_be : Cal P w K mg base 2 "may_be" (spMay (ga K "Net")) []) (F_Web_places : Met P w K mg base 1 (ga K "Web") "places" (spPlaces (ga K "Web")) []) (F_Web_contains : Met P w K mg base 1 (ga K "Web") "__contains__" (spContains (ga K "Web")) []) : Cal P w K mg base 6 "can" (spCan (ga K "Web")) [] := by
  refine cal_of (D := d_can) (T.says.def_ 27 rfl) T.g_can (fun _ _ _ _ _ _ us hl => match us, hl with | [_, _, _], _ => rfl) sc_can (fun vs H Q E h => ?_) (fun cdv A outer s H vs Q E hr h => ?_)
  · obtain ⟨p, a, v, _, rfl, _⟩ := h
    rfl
  have hu := hu_of hr
  refine ⟨_, (pss_cons (ps_if (pt_cmpR (op_notInM F_Web_contains hr (by decide)) (pv 1) (pv 0) rfl) (pss_one (ps_never)) pss_nil)
    (pss_cons (ps_if (pt_not (pt_val (pe_c F_is_value hr (by decide) rfl (pa_cons (pv 2) pa_nil)))) (pss_one (ps_never)) pss_nil)
    (pss_one (ps_ret (pe_c F_may_be hr (by decide) rfl (pa_cons (pe_c F_net_of hr (by decide) rfl (pa_cons (pv 0) pa_nil)) (pa_cons (pe_bm PySem.F.plainAttrs_list PySem.F.slot_list_index PySem.F.type_list_index mt_index (pe_mt0 F_Web_places hr (by decide) (pv 0)) (pa_cons (pv 1) pa_nil)) (pa_cons (pv 2) pa_nil)))))))), ?_⟩
  obtain ⟨p, a, v, W, rfl, A0, G, ha, h0, h2, k⟩ := h
  obtain ⟨dx, dp, db, la, a1, a2, a3, a4⟩ := id A0.ex
  refine ⟨_, rfl, _, rfl, p, dx, _, rfl, a1, p, a, W, rfl, A0, true, by rw [decide_eq_true ha], false, rfl, iteF ?_⟩
  refine ⟨_, rfl, v, rfl, ⟨h0, h2⟩, _, rfl, iteF ?_⟩
  refine ⟨_, rfl, p, W, rfl, A0, G, fun H1 q t s1 N => ?_⟩
  refine ⟨_, rfl, p, dx, _, rfl, s1 _ _ a1, rfl, p, W, rfl, A0.same s1, fun l hl => ?_⟩
  have hgt := idx_get ha
  have hil := lt_of_get hgt
  refine ⟨.inl ⟨rfl, _, SqL.of upd_same⟩, _, rfl, l, W.N.map vS, .str a, idx a W.N, .str a, rfl, rfl, SqL.of upd_same, rfl, all_flat, by rw [List.getElem?_map, hgt]; rfl, beq_self_eq_true a, fun m z hm hz => ?_, ?_⟩
  · obtain ⟨b, hb, rfl⟩ := str_get hz
    show (b == a) = false
    rw [beq_eq_false_iff_ne]
    intro e
    subst e
    have := idx_of G.ok.nodup hb
    omega
  obtain ⟨H0, r, c, A, n1, n2, n3, n4⟩ := N.ex
  have hW := N.least G.ok.nodup G.ok.symm G.pr0
  refine ⟨_, rfl, H0, q, W.N.map W.pr, A, r, t, c, _, v, idx a W.N, rfl, n1.grow (Same.new hl), n2, rfl, by rw [List.length_map]; exact hil, h0, h2, fun x hx => ?_, by rw [List.length_map]; exact n3.arcsIn, by rw [List.length_map]; have := G.len; omega, n4, fun H2 b s2 hb => ?_⟩
  · obtain ⟨y, hy, rfl⟩ := List.mem_map.mp hx
    exact G.pr0 y hy
  refine k _ b ((s1.trans (Same.new hl)).trans s2) (hb.trans ((canN_iff G.ok.nodup G.ok.symm n3 hgt h0 h2).trans ⟨fun ⟨x, g, e, ev⟩ => ⟨x, g, ⟨t, hW, e⟩, ev⟩, fun ⟨x, g, ⟨t', hw', e⟩, ev⟩ => ⟨x, g, ?_, ev⟩⟩))
  rw [GLeast.unique hW hw']
  exact e
def keptS (a0 : Str) (v : Int) : List (Key × V) := dS (fun _ => .int v) [a0]
def spCheckKept (C : Addr) : Sp := fun vs H Q _ => ∃ (H0 : Hp) (p kp : Addr) (a0 : Str) (v : Int) (W : WebD Str), vs = [.ref p, .ref kp] ∧ Same H0 H ∧ WebAt C H0 p W ∧ H0 kp = none ∧ H kp = some (.dK (keptS a0 v)) ∧ a0 ∈ W.N ∧ 0 ≤ v ∧ v ≤ 2 ∧ ∀ H', Same H H' → Q .non H'

theorem sc_check_kept : FnScope ["web", "kept", "place"] ["web", "kept"] (defScope s_check_kept) := ⟨rfl, rfl, rfl, by decide +kernel, rfl, by decide +kernel, by decide +kernel⟩

theorem ok_check_kept {P : Program} {w : World} {K : PySem.W.Frag} {mg : Str → Option Value} {base : Heap} (T : Txt K mg) (F_is_value : Cal P w K mg base 2 "is_value" spIsValue []) (F_Web_contains : Met P w K mg base 1 (ga K "Web") "__contains__" (spContains (ga K "Web")) []) : Cal P w K mg base 3 "check_kept" (spCheckKept (ga K "Web")) [] := by
  refine cal_of (D := d_check_kept) (T.says.def_ 28 rfl) T.g_check_kept (fun _ _ _ _ _ _ us hl => match us, hl with | [_, _], _ => rfl) sc_check_kept (fun vs H Q E h => ?_) (fun cdv A outer s H vs Q E hr h => ?_)
  · obtain ⟨_, p, kp, _, _, _, rfl, _⟩ := h
    rfl
  have hu := hu_of hr
  refine ⟨_, (pss_cons (ps_if (pt_not (pt_val (pe_callB call_isi (by rfl) T.f_isinstance (by decide +kernel) (pa_cons (pv 1) (pa_cons (pe_ty (n := "dict") (by rfl) T.f_dict (by decide +kernel)) pa_nil))))) (pss_one (ps_never)) pss_nil)
    (pss_one (ps_lock (ps_for PassesOwn.never rfl (pi_keys (pv 1)) (pg_name (i := 2) sc_check_kept.nd rfl (Or.inl rfl)) (pss_cons (ps_if (pt_cmpR (op_notInM F_Web_contains hr (by decide)) (pv 2) (pv 0) rfl) (pss_one (ps_never)) pss_nil)
    (pss_one (ps_if (pt_not (pt_val (pe_c F_is_value hr (by decide) rfl (pa_cons (pe_dget hu (pv 1) (pv 2) (fun _ _ => rfl)) pa_nil)))) (pss_one (ps_never)) pss_nil))))))), ?_⟩
  obtain ⟨H0, p, kp, a0, v, W, rfl, s0, A0, hk0, hk, ha, h0, h2, k⟩ := h
  refine ⟨_, rfl, _, _, _, _, true, rfl, .ty _, .base (.dK hk), kit_ty (by decide +kernel), ?_⟩
  refine ⟨_, rfl, iteF ?_⟩
  refine ⟨kp, _, hk, True.intro, fun od => ?_⟩
  have A1 : WebAt (ga K "Web") (upd H kp (.frz od (.dK (keptS a0 v)))) p W := A0.same fun b o e => by rw [upd_ne (ne_of_none e hk0)]; exact s0 _ _ e
  have g2 : upd H kp (.frz od (.dK (keptS a0 v))) kp = some (.frz od (.dK (keptS a0 v))) := upd_same
  have hfin := L2.Same.unlock (f := .frz od (.dK (keptS a0 v))) hk (Same.refl _)
  generalize upd H kp (.frz od (.dK (keptS a0 v))) = H1 at A1 g2 hfin ⊢
  obtain ⟨dx, dp, db, la, a1, a2, a3, a4⟩ := id A1.ex
  refine ⟨_, rfl, kp, od, rfl, .inl ⟨_, g2, ?_⟩⟩
  refine for_it (walk_keys (d := kp) (o := od) (kvs := keptS a0 v)) (fun i σ H' => ∃ po, σ = [some (.ref p), some (.ref kp), po] ∧ H' = H1) ⟨none, rfl, rfl⟩ (fun i σ H' _ ⟨_, _, e⟩ => e ▸ g2) ?_ ?_
  · rintro i x σ H2 H3 hi ⟨po, rfl, rfl⟩ ⟨rfl, kk, vv, hkk, rfl⟩
    obtain ⟨a, hai, rfl, _⟩ := dS_get hkk
    have e := List.mem_singleton.mp (List.mem_of_getElem? hai)
    subst e
    refine ⟨_, rfl, _, rfl, p, dx, _, rfl, a1, p, a, W, rfl, A1, true, by rw [decide_eq_true ha], false, rfl, iteF ?_⟩
    refine ⟨_, rfl, _, rfl, kp, _, rfl, dget_in (f := fun _ => V.int v) (.inr ⟨od, g2⟩) (List.mem_singleton.mpr rfl), v, rfl, ⟨h0, h2⟩, _, rfl, iteF ?_⟩
    exact ⟨_, rfl, rfl⟩
  · rintro σ H2 ⟨po, rfl, rfl⟩
    exact ⟨g2, k _ hfin⟩
end HW

set_option Elab.async false
set_option linter.all false
set_option maxRecDepth 100000
set_option maxHeartbeats 4000000
set_option pp.maxSteps 400
set_option pp.fieldNotation false
namespace HW
open PySem PySem.Spec PyProof.Rows L2 He
open C8 (Cal Met Mak pe_c pe_mk pe_mt pe_mt0 pe_gc InsC call_isC)
open HP
theorem kept_get {H : Hp} {kp : Addr} {a0 b : Str} {v : Int} (h : Rd H kp (.dK (keptS a0 v))) : DGet H kp (.str b) (if b = a0 then some (.int v) else none) := by
  by_cases e : b = a0
  · rw [if_pos e, e]
    exact dget_in (f := fun _ => V.int v) h (List.mem_singleton.mpr rfl)
  · rw [if_neg e]
    exact dget_out (f := fun _ => V.int v) h (fun z => e (List.mem_singleton.mp z))
theorem at_get {H : Hp} {ap : Addr} {F : List Str} {b : Str} (h : Rd H ap (.dK (dS (vIx F) F))) : DGet H ap (.str b) (if b ∈ F then some (vIx F b) else none) := by
  by_cases e : b ∈ F
  · rw [if_pos e]; exact dget_in h e
  · rw [if_neg e]; exact dget_out h e
theorem arcsH_snoc {F L : List Str} {half : Str → Bool} {a : Str} : ((L ++ [a]).filter half).map (fun a => (idx a F, F.length + idx a F)) = ((L.filter half).map fun a => (idx a F, F.length + idx a F)) ++ (if half a = true then [(idx a F, F.length + idx a F)] else []) := by
  rw [List.filter_append, List.map_append]
  by_cases h : half a = true
  · rw [if_pos h, List.filter_cons_of_pos h]; rfl
  · rw [if_neg h, List.filter_cons_of_neg h]; rfl
theorem any_half {W : WebD Str} (G : WebG W) {a0 a : Str} {v : Int} (ha0 : a0 ∈ W.N) : (((W.N.filter (W.adj a)).map fun b => (decide (b = a0) && decide (v = 1)))).any id = W.halfAt a0 v a := by
  unfold WebD.halfAt
  rw [Bool.eq_iff_iff, List.any_eq_true, Bool.and_eq_true]
  constructor
  · rintro ⟨x, hx, hx2⟩
    obtain ⟨b, hb, rfl⟩ := List.mem_map.mp hx
    have hb2 := (List.mem_filter.mp hb).2
    have hx2 : (decide (b = a0) && decide (v = 1)) = true := hx2
    rw [Bool.and_eq_true] at hx2
    have e := of_decide_eq_true hx2.1
    subst e
    exact ⟨hx2.2, by rw [G.ok.symm]; exact hb2⟩
  · rintro ⟨h1, h2⟩
    refine ⟨_, List.mem_map.mpr ⟨a0, List.mem_filter.mpr ⟨ha0, by rw [G.ok.symm]; exact h2⟩, rfl⟩, ?_⟩
    rw [h1, decide_eq_true rfl]
    rfl
def spRest (C : Addr) : Sp := fun vs H Q _ => ∃ (p kp fq : Addr) (a0 : Str) (v : Int) (F : List Str) (W : WebD Str), vs = [.ref p, .ref kp, .ref fq] ∧ WebAt C H p W ∧ WebG W ∧ H kp = some (.dK (keptS a0 v)) ∧ H fq = some (.lst (F.map vS)) ∧ F.Nodup ∧ (∀ a ∈ F, a ∈ W.N) ∧ F.length ≤ 28 ∧ a0 ∈ W.N ∧
  ∀ H' t, Same H H' → GLeast F W.adj (W.halfAt a0 v) W.pr (fun _ => True) t → Q (.int t) H'

theorem sc_rest_of : FnScope ["web", "kept", "free", "place", "at", "arcs", "a", "b", "k", "other"] ["web", "kept", "free"] (defScope s_rest_of) := ⟨rfl, rfl, rfl, by decide +kernel, rfl, by decide +kernel, by decide +kernel⟩

theorem ok_rest_of {P : Program} {w : World} {K : PySem.W.Frag} {mg : Str → Option Value} {base : Heap} (T : Txt K mg) (K_Net : Mak P w K mg base 3 "Net" (ga K "Net") (spNet (ga K "Net")) []) (F_Web_ties : Met P w K mg base 1 (ga K "Web") "ties" (spTies (ga K "Web")) []) (F_Web_near : Met P w K mg base 2 (ga K "Web") "near" (spNear (ga K "Web")) []) (F_Web_price : Met P w K mg base 2 (ga K "Web") "price" (spPriceOf (ga K "Web")) []) : Cal P w K mg base 5 "rest_of" (spRest (ga K "Web")) [] := by
  refine cal_of (D := d_rest_of) (T.says.def_ 30 rfl) T.g_rest_of (fun _ _ _ _ _ _ us hl => match us, hl with | [_, _, _], _ => rfl) sc_rest_of (fun vs H Q E h => ?_) (fun cdv A outer s H vs Q E hr h => ?_)
  · obtain ⟨p, kp, fq, _, _, _, _, rfl, _⟩ := h
    rfl
  have hu := hu_of hr
  refine ⟨_, (pss_cons (ps_setDc (i := 4) rfl sc_rest_of.nd rfl rfl (sw_trueD rfl rfl rfl (by decide +kernel)) (pi_enum (by rfl) T.f_enumerate (pa_cons (pv 2) pa_nil)) (blkOk_by (N := ["web", "kept", "free", "place", "at", "arcs", "a", "b", "k", "other"]) (sc := defScope s_rest_of) (own := [("k", 8), ("place", 3)]) (by decide +kernel)) (fun _ _ _ _ _ => (pg_tup_k (K := K) (n := 2) rfl rfl (pgs_cons (pg_name (i := 8) sc_rest_of.nd rfl (Or.inl rfl)) (pgs_cons (pg_name (i := 3) sc_rest_of.nd rfl (Or.inl rfl)) pgs_nil)))) (fun _ _ _ _ _ => pts_nil) (fun _ _ _ _ _ => (pv 3)) (fun _ _ _ _ _ => (pv 8)))
    (pss_cons (ps_set (i := 5) sc_rest_of.nd rfl (Or.inl rfl) (pe_lst pa_nil))
    (C8.pss_cut (ps_for PassesOwn.never rfl (pi_list (pe_mt0 F_Web_ties hr (by decide) (pv 0))) (pg_tup rfl (pgs_cons (pg_name (i := 6) sc_rest_of.nd rfl (Or.inl rfl)) (pgs_cons (pg_name (i := 7) sc_rest_of.nd rfl (Or.inl rfl)) pgs_nil))) (pss_one (ps_if (PW.pt (pw_and (pt_cmp (pc_din hu (pv 6) (pv 4)) rfl) (pw_and1 (pt_cmp (pc_din hu (pv 7) (pv 4)) rfl)))) (pss_cons (ps_expr (pe_bm PySem.F.plainAttrs_list PySem.F.slot_list_append PySem.F.type_list_append mt_append (pv 5) (pa_cons (pe_tup (pa_cons (pe_dget hu (pv 4) (pv 6) (fun _ _ => rfl)) (pa_cons (pe_op op_add (pe_callB call_len_seq (by rfl) T.f_len (by decide +kernel) (pa_cons (pv 2) pa_nil)) (pe_dget hu (pv 4) (pv 7) (fun _ _ => rfl))) pa_nil))) pa_nil)))
    (pss_one (ps_expr (pe_bm PySem.F.plainAttrs_list PySem.F.slot_list_append PySem.F.type_list_append mt_append (pv 5) (pa_cons (pe_tup (pa_cons (pe_dget hu (pv 4) (pv 7) (fun _ _ => rfl)) (pa_cons (pe_op op_add (pe_callB call_len_seq (by rfl) T.f_len (by decide +kernel) (pa_cons (pv 2) pa_nil)) (pe_dget hu (pv 4) (pv 6) (fun _ _ => rfl))) pa_nil))) pa_nil))))) pss_nil)))
    (C8.pss_cut (ps_for PassesOwn.never rfl (pi_list (pv 2)) (pg_name (i := 3) sc_rest_of.nd rfl (Or.inl rfl)) (pss_one (ps_if (pt_val (pe_callB (cr_any rfl) (by rfl) T.f_any (by decide +kernel) (pa_cons (pe_lc rfl sc_rest_of.nd (pi_list (pe_mt F_Web_near hr (by decide) (pv 0) (pa_cons (pv 3) pa_nil))) (blkOk_by (N := ["web", "kept", "free", "place", "at", "arcs", "a", "b", "k", "other"]) (sc := defScope s_rest_of) (own := [("other", 9)]) (by decide +kernel)) (fun _ _ _ _ _ => (pg_name (i := 9) sc_rest_of.nd rfl (Or.inl rfl))) (fun _ _ _ _ _ => pts_nil) (fun _ _ _ _ _ => (pe_and (pe_cmp (pc_din hu (pv 9) (pv 1)) rfl) (pe_one (pe_cmpR op_eq (pe_dget hu (pv 1) (pv 9) (fun _ _ => rfl)) pe_int (nomark _)))))) pa_nil))) (pss_one (ps_expr (pe_bm PySem.F.plainAttrs_list PySem.F.slot_list_append PySem.F.type_list_append mt_append (pv 5) (pa_cons (pe_tup (pa_cons (pe_dget hu (pv 4) (pv 3) (fun _ _ => rfl)) (pa_cons (pe_op op_add (pe_callB call_len_seq (by rfl) T.f_len (by decide +kernel) (pa_cons (pv 2) pa_nil)) (pe_dget hu (pv 4) (pv 3) (fun _ _ => rfl))) pa_nil))) pa_nil)))) pss_nil)))
    (pss_one (ps_ret (pe_fld (pe_mk K_Net hr (by decide) rfl (pa_cons (pe_lc rfl sc_rest_of.nd (pi_list (pv 2)) (blkOk_by (N := ["web", "kept", "free", "place", "at", "arcs", "a", "b", "k", "other"]) (sc := defScope s_rest_of) (own := [("place", 3)]) (by decide +kernel)) (fun _ _ _ _ _ => (pg_name (i := 3) sc_rest_of.nd rfl (Or.inl rfl))) (fun _ _ _ _ _ => pts_nil) (fun _ _ _ _ _ => (pe_mt F_Web_price hr (by decide) (pv 0) (pa_cons (pv 3) pa_nil)))) (pa_cons (pv 5) pa_nil))) (by rfl)))))))), ?_⟩
  obtain ⟨p, kp, fq, a0, v, F, W, rfl, A0, G, hk, hf, hnd, hsub, hF28, ha0, k⟩ := h
  obtain ⟨dx, dp, db, la, h1, h2, h3, h4⟩ := id A0.ex
  have hN28 := G.len
  -- at = {place: k for k, place in enumerate(free)}
  refine ⟨_, rfl, fq, _, rfl, SqL.of hf, fun ap hap => ?_⟩
  refine dc_it (walk_enum (K := K) (a := fq) (xs := F.map vS)) (fun i H' => Same H H' ∧ H' ap = some (.dK (dS (vIx F) (F.take i)))) ⟨Same.new hap, upd_same⟩ (fun i H' _ e => SqL.of (e.1 _ _ hf)) ?_ ?_
  · rintro i x H2 H3 hi ⟨s2, ha2⟩ ⟨tp, x1, x2, rfl, htp, rfl, e1, e2⟩
    cases e1
    obtain ⟨a, ha, rfl⟩ := str_get e2
    have s3 : Same H2 (upd H2 tp (.tup [V.int (i : Nat), V.str a])) := Same.new htp
    have ei : V.int (i : Nat) = vIx F a := by unfold vIx vN; rw [idx_of hnd ha]
    refine ⟨tp, _, rfl, .inl (.inl upd_same), rfl, _, _, rfl, _, _, rfl, rfl, rfl, _, rfl, _, rfl, _, Sum.inr a, rfl, s3 _ _ ha2, by rw [dS_length, List.length_take]; exact small_lt (by omega), (s2.trans s3).mut hap, ?_⟩
    rw [upd_same, ei, putS_new (nodup_take_get hnd ha), take_succ_get ha]
  rintro H2 ⟨s2, ha2⟩
  rw [List.length_map, List.take_length] at ha2
  -- arcs = []
  refine ⟨by show 0 ≤ sizeLine; decide, fun aq haq => ?_⟩
  have s3 : Same H2 (upd H2 aq (.lst [])) := Same.new haq
  have ha3 := s3 _ _ ha2
  have haq0 : H aq = none := s2.free haq
  have t3 := s2.trans s3
  have hr3 : upd H2 aq (.lst []) aq = some (.lst ([].map vR)) := upd_same
  generalize upd H2 aq (.lst []) = H3 at s3 ha3 t3 hr3 ⊢
  have hqa : fq ≠ aq := ne_of_none hf haq0
  have hpa : ap ≠ aq := ne_of_none ha2 haq
  have hsp := arc_spec G hnd hsub (W.halfAt a0 v)
  have htlen := tiesOf_length G
  -- for a, b in web.ties()
  refine ⟨fun σ H' => ∃ ao bo ts, σ = [some (.ref p), some (.ref kp), some (.ref fq), none, some (.ref ap), some (.ref aq), ao, bo, none, none] ∧ Same H H' ∧ H' ap = some (.dK (dS (vIx F) F)) ∧ H' aq = some (.lst (ts.map vR)) ∧ TupsAt arcV H' ts (arcsT F (tiesOf W)), ?_, ?_⟩
  · refine ⟨_, rfl, p, dx, _, rfl, t3 _ _ h1, rfl, ?_⟩
    unfold tNil
    refine ⟨p, W, rfl, A0.same t3, G, fun H4 tl s4 htl hL => ?_⟩
    obtain ⟨us, htl4, hus⟩ := hL
    have t4 := t3.trans s4
    have htl0 : aq ≠ tl := ne_of_none hr3 htl
    refine ⟨tl, rfl, ⟨_, SqL.of htl4⟩, ?_⟩
    refine for_list (K := K) (a := tl) (xs := us.map vR) (fun i σ H' => ∃ ao bo ts, σ = [some (.ref p), some (.ref kp), some (.ref fq), none, some (.ref ap), some (.ref aq), ao, bo, none, none] ∧ Same H H' ∧ H' ap = some (.dK (dS (vIx F) F)) ∧ H' tl = some (.lst (us.map vR)) ∧ TupsAt tieV H' us (tiesOf W) ∧ H' aq = some (.lst (ts.map vR)) ∧ TupsAt arcV H' ts (arcsT F ((tiesOf W).take i)))
      ⟨none, none, [], rfl, t4, s4 _ _ ha3, htl4, hus, s4 _ _ hr3, TupsAt.nil⟩ (fun i σ H' _ ⟨_, _, _, _, _, _, h, _⟩ => SqL.of h) ?_ ?_
    · rintro i x σ H5 hx ⟨ao, bo, ts, rfl, s5, ha5, ht5, hu5, hr5, hts⟩
      obtain ⟨u, z, _, hz, rfl, hu⟩ := hu5.get hx
      have hzm := mem_tiesOf.mp (List.mem_of_getElem? hz)
      have hq5 := s5 _ _ hf
      have hsz : ts.length ≤ 756 := by
        rw [hts.1]
        have h1 := arcsT_length (F := F) (ties := (tiesOf W).take i)
        rw [List.length_take] at h1
        omega
      refine ⟨u, _, rfl, .inl (.inl hu), rfl, _, _, rfl, _, _, rfl, rfl, ?_⟩
      -- if a in at and b in at
      refine ⟨_, rfl, _, rfl, ap, _, rfl, at_get (.inl ha5), _, rfl, ?_⟩
      by_cases c1 : z.1 ∈ F
      · rw [if_pos c1]
        refine iteT ⟨_, rfl, _, rfl, ap, _, rfl, at_get (.inl ha5), _, rfl, ?_⟩
        by_cases c2 : z.2 ∈ F
        · rw [if_pos c2]
          refine iteT ?_
          -- arcs.append((at[a], len(free) + at[b]))
          refine ⟨_, rfl, .inl ⟨rfl, _, SqL.of hr5⟩, _, rfl, _, rfl, ap, _, rfl, dget_in (.inl ha5) c1, _, rfl, _, _, rfl, .inl (SqL.of hq5), _, rfl, _, rfl, ap, _, rfl, dget_in (.inl ha5) c2, _, _, rfl, rfl, by show 2 ≤ sizeLine; decide, fun t ht => ?_⟩
          have n1 := (Same.new (o := .tup [vIx F z.1, V.int ((((F.map vS).length : Nat) : Int) + ((idx z.2 F : Nat) : Int))]) ht)
          refine ⟨_, _, _, rfl, rfl, n1 _ _ hr5, by rw [List.length_map]; exact small_lt (by omega), ?_⟩
          have hp := TupsAt.push (q := (idx z.1 F, F.length + idx z.2 F)) hr5 hts ht (ws := [vIx F z.1, V.int ((((F.map vS).length : Nat) : Int) + ((idx z.2 F : Nat) : Int))]) (by rw [List.length_map]; exact arcV_eq _ _ _)
          have hA := fun (b : Addr) (o : HO) (e : H5 b = some o) (ne : b ≠ aq) => (show upd (upd H5 t (.tup [vIx F z.1, V.int ((((F.map vS).length : Nat) : Int) + ((idx z.2 F : Nat) : Int))])) aq (.lst (ts.map vR ++ [V.ref t])) b = some o by rw [upd_ne ne]; exact n1 _ _ e)
          have s6 : Same H (upd (upd H5 t (.tup [vIx F z.1, V.int ((((F.map vS).length : Nat) : Int) + ((idx z.2 F : Nat) : Int))])) aq (.lst (ts.map vR ++ [V.ref t]))) := (s5.trans n1).mut haq0
          generalize upd (upd H5 t (.tup [vIx F z.1, V.int ((((F.map vS).length : Nat) : Int) + ((idx z.2 F : Nat) : Int))])) aq (.lst (ts.map vR ++ [V.ref t])) = H6 at hp hA s6 ⊢
          have hq6 := hA _ _ hq5 hqa
          have ha6 := hA _ _ ha5 hpa
          have ht6 := hA _ _ ht5 (Ne.symm htl0)
          have hu6 : TupsAt tieV H6 us (tiesOf W) := ⟨hu5.1, fun i a y e1 e2 => hA _ _ (hu5.2 i a y e1 e2) (ne_of (hu5.2 i a y e1 e2) hr5 (by intro z; cases z))⟩
          -- arcs.append((at[b], len(free) + at[a]))
          refine ⟨_, rfl, .inl ⟨rfl, _, SqL.of hp.1⟩, _, rfl, _, rfl, ap, _, rfl, dget_in (.inl ha6) c2, _, rfl, _, _, rfl, .inl (SqL.of hq6), _, rfl, _, rfl, ap, _, rfl, dget_in (.inl ha6) c1, _, _, rfl, rfl, by show 2 ≤ sizeLine; decide, fun t2 ht2 => ?_⟩
          have n2 := (Same.new (o := .tup [vIx F z.2, V.int ((((F.map vS).length : Nat) : Int) + ((idx z.1 F : Nat) : Int))]) ht2)
          refine ⟨_, _, _, rfl, rfl, n2 _ _ hp.1, by rw [List.length_map, List.length_append]; exact small_lt (by show ts.length + 1 < 100000; omega), ?_⟩
          have hp2 := TupsAt.push (q := (idx z.2 F, F.length + idx z.1 F)) hp.1 hp.2 ht2 (ws := [vIx F z.2, V.int ((((F.map vS).length : Nat) : Int) + ((idx z.1 F : Nat) : Int))]) (by rw [List.length_map]; exact arcV_eq _ _ _)
          have hB := fun (b : Addr) (o : HO) (e : H6 b = some o) (ne : b ≠ aq) => (show upd (upd H6 t2 (.tup [vIx F z.2, V.int ((((F.map vS).length : Nat) : Int) + ((idx z.1 F : Nat) : Int))])) aq (.lst ((ts ++ [t]).map vR ++ [V.ref t2])) b = some o by rw [upd_ne ne]; exact n2 _ _ e)
          refine ⟨_, _, (ts ++ [t]) ++ [t2], rfl, (s6.trans n2).mut haq0, hB _ _ ha6 hpa, hB _ _ ht6 (Ne.symm htl0), ⟨hu6.1, fun i a y e1 e2 => hB _ _ (hu6.2 i a y e1 e2) (ne_of (hu6.2 i a y e1 e2) hp.1 (by intro z; cases z))⟩, hp2.1, ?_⟩
          rw [take_succ_get hz, arcsT_in c1 c2]
          exact hp2.2
        · rw [if_neg c2]
          refine iteF ⟨_, _, ts, rfl, s5, ha5, ht5, hu5, hr5, ?_⟩
          rw [take_succ_get hz, arcsT_snoc, if_neg (fun y => c2 y.2), List.append_nil]
          exact hts
      · rw [if_neg c1]
        refine iteF ⟨_, _, ts, rfl, s5, ha5, ht5, hu5, hr5, ?_⟩
        rw [take_succ_get hz, arcsT_snoc, if_neg (fun y => c1 y.1), List.append_nil]
        exact hts
    · rintro σ H5 ⟨ao, bo, ts, rfl, s5, ha5, ht5, hu5, hr5, hts⟩
      rw [List.length_map, hus.1, List.take_length] at hts
      exact ⟨ao, bo, ts, rfl, s5, ha5, hr5, hts⟩
  rintro σ H5 ⟨ao, bo, ts, rfl, s5, ha5, hr5, hts⟩
  have hAl := arcsT_length (F := F) (ties := tiesOf W)
  -- for place in free
  refine ⟨fun σ H' => ∃ po ts, σ = [some (.ref p), some (.ref kp), some (.ref fq), po, some (.ref ap), some (.ref aq), ao, bo, none, none] ∧ Same H H' ∧ H' ap = some (.dK (dS (vIx F) F)) ∧ H' aq = some (.lst (ts.map vR)) ∧ TupsAt arcV H' ts (arcsT F (tiesOf W) ++ arcsH F (W.halfAt a0 v)), ?_, ?_⟩
  · refine ⟨_, rfl, fq, rfl, ⟨_, SqL.of (s5 _ _ hf)⟩, ?_⟩
    refine for_list (K := K) (a := fq) (xs := F.map vS) (fun i σ H' => ∃ po ts, σ = [some (.ref p), some (.ref kp), some (.ref fq), po, some (.ref ap), some (.ref aq), ao, bo, none, none] ∧ Same H H' ∧ H' ap = some (.dK (dS (vIx F) F)) ∧ H' aq = some (.lst (ts.map vR)) ∧ TupsAt arcV H' ts (arcsT F (tiesOf W) ++ ((F.take i).filter (W.halfAt a0 v)).map fun a => (idx a F, F.length + idx a F)))
      ⟨none, ts, rfl, s5, ha5, hr5, by rw [List.take_zero, List.filter_nil, List.map_nil, List.append_nil]; exact hts⟩ (fun i σ H' _ ⟨_, _, _, s, _⟩ => SqL.of (s _ _ hf)) ?_ ?_
    · rintro i x σ H6 hx ⟨po, ts, rfl, s6, ha6, hr6, hts6⟩
      obtain ⟨a, ha, rfl⟩ := str_get hx
      have haF := List.mem_of_getElem? ha
      have haN := hsub a haF
      have hsz : ts.length ≤ 784 := by
        rw [hts6.1, List.length_append, List.length_map]
        have e1 : ((F.take i).filter (W.halfAt a0 v)).length ≤ F.length := Nat.le_trans (List.length_filter_le _ _) (by rw [List.length_take]; exact Nat.min_le_right _ _)
        omega
      -- any([other in kept and kept[other] == 1 for other in web.near(place)])
      refine ⟨_, rfl, p, dx, _, rfl, s6 _ _ h1, rfl, _, rfl, p, a, W, rfl, A0.same s6, haN, fun nl hnl => ⟨nl, rfl, ⟨_, SqL.of upd_same⟩, fun L hL => ?_⟩⟩
      have s7 : Same H6 (upd H6 nl (.lst ((W.N.filter (W.adj a)).map vS))) := Same.new hnl
      have hn7 : upd H6 nl (.lst ((W.N.filter (W.adj a)).map vS)) nl = some (.lst ((W.N.filter (W.adj a)).map vS)) := upd_same
      generalize upd H6 nl (.lst ((W.N.filter (W.adj a)).map vS)) = H7 at s7 hn7 hL ⊢
      have hfl : (W.N.filter (W.adj a)).length ≤ 28 := Nat.le_trans (List.length_filter_le _ _) hN28
      refine lc_list (K := K) (a := nl) (xs := (W.N.filter (W.adj a)).map vS) (fun j H' => H' = upd H7 L (.lst ((((W.N.filter (W.adj a)).take j).map fun b => (decide (b = a0) && decide (v = 1))).map V.bl))) (by rw [List.take_zero]; rfl) (fun j H' _ e => by
          subst e
          exact SqL.of ((Same.new hL) _ _ hn7)) ?_ ?_
      · rintro j y H8 hy rfl
        obtain ⟨b, hb, rfl⟩ := str_get hy
        have hk8 := ((s6.trans s7).trans (Same.new (o := .lst ((((W.N.filter (W.adj a)).take j).map fun b => (decide (b = a0) && decide (v = 1))).map V.bl)) hL)) _ _ hk
        have hlen8 : ((((W.N.filter (W.adj a)).take j).map fun b => (decide (b = a0) && decide (v = 1))).map V.bl).length < sizeLine := by
          rw [List.length_map, List.length_map, List.length_take]
          exact small_lt (by omega)
        refine ⟨rfl, _, rfl, _, rfl, kp, _, rfl, kept_get (.inl hk8), ?_⟩
        by_cases e : b = a0
        · rw [if_pos e]
          refine ⟨_, rfl, iteT ⟨_, rfl, _, rfl, kp, _, rfl, dget_in (f := fun _ => V.int v) (.inl hk8) (List.mem_singleton.mpr e), rfl, _, upd_same, hlen8, ?_⟩⟩
          rw [upd_upd, take_succ_get hb, List.map_append, List.map_append]
          congr 3
          show [V.bl (decide (V.int v = V.int 1))] = [V.bl (decide (b = a0) && decide (v = 1))]
          rw [decide_eq_true e, Bool.true_and]
          congr 2
          by_cases q : v = 1
          · rw [decide_eq_true q, decide_eq_true (by rw [q])]
          · rw [decide_eq_false q, decide_eq_false (fun z => q (by injection z))]
        · rw [if_neg e]
          refine ⟨_, rfl, iteF ⟨_, upd_same, hlen8, ?_⟩⟩
          rw [upd_upd, take_succ_get hb, List.map_append, List.map_append]
          congr 3
          show [V.bl false] = [V.bl (decide (b = a0) && decide (v = 1))]
          rw [decide_eq_false e]
          rfl
      rintro H8 rfl
      rw [List.length_map, List.take_length]
      refine ⟨L, _, rfl, SqL.of upd_same, ?_⟩
      rw [any_half G ha0]
      have s8 : Same H6 (upd H7 L (.lst (((W.N.filter (W.adj a)).map fun b => (decide (b = a0) && decide (v = 1))).map V.bl))) := s7.trans (Same.new hL)
      generalize upd H7 L (.lst (((W.N.filter (W.adj a)).map fun b => (decide (b = a0) && decide (v = 1))).map V.bl)) = H8 at s8 ⊢
      have t8 := s6.trans s8
      have hr8 := s8 _ _ hr6
      have ha8 := s8 _ _ ha6
      have hts8 := hts6.same s8
      refine ⟨_, rfl, ?_⟩
      by_cases c : W.halfAt a0 v a = true
      · rw [c]
        refine iteT ?_
        refine ⟨_, rfl, .inl ⟨rfl, _, SqL.of hr8⟩, _, rfl, _, rfl, ap, _, rfl, dget_in (.inl ha8) haF, _, rfl, _, _, rfl, .inl (SqL.of (t8 _ _ hf)), _, rfl, _, rfl, ap, _, rfl, dget_in (.inl ha8) haF, _, _, rfl, rfl, by show 2 ≤ sizeLine; decide, fun t ht => ?_⟩
        have n1 := (Same.new (o := .tup [vIx F a, V.int ((((F.map vS).length : Nat) : Int) + ((idx a F : Nat) : Int))]) ht)
        refine ⟨_, _, _, rfl, rfl, n1 _ _ hr8, by rw [List.length_map]; exact small_lt (by omega), ?_⟩
        have hp := TupsAt.push (q := (idx a F, F.length + idx a F)) hr8 hts8 ht (ws := [vIx F a, V.int ((((F.map vS).length : Nat) : Int) + ((idx a F : Nat) : Int))]) (by rw [List.length_map]; exact arcV_eq _ _ _)
        refine ⟨_, ts ++ [t], rfl, (t8.trans n1).mut haq0, by rw [upd_ne hpa]; exact n1 _ _ ha8, hp.1, ?_⟩
        rw [take_succ_get ha, arcsH_snoc, if_pos c, ← List.append_assoc]
        exact hp.2
      · rw [Bool.not_eq_true] at c
        rw [c]
        refine iteF ⟨_, ts, rfl, t8, ha8, hr8, ?_⟩
        rw [take_succ_get ha, arcsH_snoc, c, if_neg Bool.false_ne_true, List.append_nil]
        exact hts8
    · rintro σ H6 ⟨po, ts, rfl, s6, ha6, hr6, hts6⟩
      rw [List.length_map, List.take_length] at hts6
      exact ⟨po, ts, rfl, s6, ha6, hr6, hts6⟩
  rintro σ H6 ⟨po, ts, rfl, s6, ha6, hr6, hts6⟩
  -- return Net([web.price(place) for place in free], arcs).total
  refine ⟨_, rfl, fq, rfl, ⟨_, SqL.of (s6 _ _ hf)⟩, fun L hL => ?_⟩
  refine lc_list (K := K) (a := fq) (xs := F.map vS) (fun i H' => H' = upd H6 L (.lst (((F.take i).map W.pr).map vI))) (by rw [List.take_zero]; rfl) (fun i H' _ e => by
      subst e
      exact SqL.of ((s6.trans (Same.new hL)) _ _ hf)) ?_ ?_
  · rintro i x H7 hx rfl
    obtain ⟨a, ha, rfl⟩ := str_get hx
    have s7 := s6.trans (Same.new (o := .lst (((F.take i).map W.pr).map vI)) hL)
    refine ⟨rfl, _, rfl, p, dx, _, rfl, s7 _ _ h1, rfl, _, rfl, p, a, W, rfl, A0.same s7, hsub a (List.mem_of_getElem? ha), _, upd_same, by rw [List.length_map, List.length_map, List.length_take]; exact small_lt (by omega), ?_⟩
    rw [upd_upd, take_succ_get ha, List.map_append, List.map_append]
    rfl
  rintro H7 rfl
  rw [List.length_map, List.take_length]
  have s7 : Same H6 (upd H6 L (.lst ((F.map W.pr).map vI))) := Same.new hL
  have hL7 : upd H6 L (.lst ((F.map W.pr).map vI)) L = some (.lst ((F.map W.pr).map vI)) := upd_same
  generalize upd H6 L (.lst ((F.map W.pr).map vI)) = H7 at s7 hL7 ⊢
  refine ⟨_, rfl, fun x ex hx hex hxx => ?_⟩
  have s8 : Same H7 (upd (upd H7 ex (.own x)) x (.ins (ga K "Net") ex [])) := (Same.new hex).mut hx
  have hH : (arcsH F (W.halfAt a0 v)).length ≤ F.length := by unfold arcsH; rw [List.length_map]; exact List.length_filter_le _ _
  have hpr0 : ∀ a ∈ F, 0 ≤ W.pr a := fun a ha => G.pr0 a (hsub a ha)
  refine ⟨H7, x, ex, L, aq, F.map W.pr, arcsT F (tiesOf W) ++ arcsH F (W.halfAt a0 v), rfl, s8, hx, upd_same, hL7, ⟨ts, s7 _ _ hr6, hts6.same s7⟩, fun y hy => ?_, by rw [List.length_map]; exact hsp.arcsIn, by rw [List.length_map]; omega, by rw [List.length_append]; omega, fun H9 r t c hN hF => ⟨rfl, ?_⟩⟩
  · obtain ⟨a, ha, rfl⟩ := List.mem_map.mp hy
    exact hpr0 a ha
  · have NN : NetOf (ga K "Net") H9 x F W.adj (W.halfAt a0 v) W.pr t := ⟨H7, r, c, _, hN, hF, hsp, by rw [List.length_append]; omega⟩
    obtain ⟨dx', fs, e1, e2, _⟩ := NN.tot
    exact ⟨x, _, dx', fs, _, rfl, e1, T.c_Net, T.n_Net_total, e2, k _ t ((s6.trans s7).trans hN.1) (NN.least hnd G.ok.symm hpr0)⟩
end HW

set_option Elab.async false
set_option linter.all false
set_option maxRecDepth 100000
set_option maxHeartbeats 4000000
set_option pp.maxSteps 400
set_option pp.fieldNotation false
namespace HW
open PySem PySem.Spec PyProof.Rows L2 He
open C8 (Cal Met Mak pe_c pe_mk pe_mt pe_mt0 pe_gc InsC call_isC)
open HP
def pinF (a0 : Str) (v : Int) (b : Str) : Int := if b = a0 then v else 2
def pinL (W : WebD Str) (a0 : Str) (v : Int) : List Str := a0 :: (if v = 0 then W.N.filter (W.adj a0) else [])
theorem pinL_nodup {W : WebD Str} (G : WebG W) (a0 : Str) (v : Int) : (pinL W a0 v).Nodup := by
  unfold pinL
  refine List.nodup_cons.mpr ⟨fun z => ?_, ?_⟩
  · split at z
    · have := (List.mem_filter.mp z).2
      rw [G.ok.irr] at this
      cases this
    · cases z
  · split
    · exact G.ok.nodup.filter _
    · exact List.nodup_nil
theorem pinL_free {W : WebD Str} {a0 : Str} {v : Int} : (W.N.filter fun a => !(decide (a ∈ pinL W a0 v))) = W.free a0 v := by
  unfold WebD.free
  refine List.filter_congr fun a ha => ?_
  congr 1
  rw [Bool.eq_iff_iff, decide_eq_true_iff, Bool.or_eq_true, Bool.and_eq_true, decide_eq_true_iff, decide_eq_true_iff]
  unfold pinL
  by_cases c : v = 0
  · rw [if_pos c, List.mem_cons, List.mem_filter]
    exact ⟨fun h => h.imp_right fun z => ⟨c, z.2⟩, fun h => h.imp_right fun z => ⟨ha, z.2⟩⟩
  · rw [if_neg c, List.mem_singleton]
    exact ⟨.inl, fun h => h.resolve_right fun z => c z.1⟩
theorem pinL_sum {W : WebD Str} (G : WebG W) {a0 : Str} {v : Int} : ((pinL W a0 v).map fun b => pinF a0 v b * W.pr b).sum = W.spent a0 v := by
  unfold pinL WebD.spent
  rw [List.map_cons, List.sum_cons]
  unfold pinF
  rw [if_pos rfl]
  congr 1
  by_cases c : v = 0
  · rw [if_pos c, if_pos c, sumL_sum]
    refine sumL_congr fun b hb => ?_
    have hne : b ≠ a0 := fun e => by
      have := (List.mem_filter.mp hb).2
      rw [e, G.ok.irr] at this
      cases this
    rw [if_neg hne]
  · rw [if_neg c, if_neg c]
    rfl
theorem pinL_sub {W : WebD Str} {a0 : Str} {v : Int} (h : a0 ∈ W.N) : ∀ b ∈ pinL W a0 v, b ∈ W.N := fun b hb => by
  unfold pinL at hb
  rcases List.mem_cons.mp hb with rfl | z
  · exact h
  · split at z
    · exact (List.mem_filter.mp z).1
    · cases z
def pV (a0 : Str) (v : Int) (b : Str) : V := .int (pinF a0 v b)
theorem pin_get {H : Hp} {pd : Addr} {a0 b : Str} {v : Int} {L : List Str} (h : Rd H pd (.dK (dS (pV a0 v) L))) : DGet H pd (.str b) (if b ∈ L then some (pV a0 v b) else none) := by
  by_cases e : b ∈ L
  · rw [if_pos e]; exact dget_in h e
  · rw [if_neg e]; exact dget_out h e
def spForced (C : Addr) : Sp := fun vs H Q _ => ∃ (H0 : Hp) (p kp : Addr) (a0 : Str) (v : Int) (W : WebD Str), vs = [.ref p, .ref kp] ∧ Same H0 H ∧ WebAt C H0 p W ∧ WebG W ∧ H0 kp = none ∧ H kp = some (.dK (keptS a0 v)) ∧ a0 ∈ W.N ∧ 0 ≤ v ∧ v ≤ 2 ∧
  ∀ H' t, Same H H' → W.Forced a0 v t → Q (.int t) H'

theorem sc_forced : FnScope ["web", "kept", "a", "b", "place", "pinned", "other", "free", "spent"] ["web", "kept"] (defScope s_forced) := ⟨rfl, rfl, rfl, by decide +kernel, rfl, by decide +kernel, by decide +kernel⟩

theorem ok_forced {P : Program} {w : World} {K : PySem.W.Frag} {mg : Str → Option Value} {base : Heap} (T : Txt K mg) (F_check_kept : Cal P w K mg base 3 "check_kept" (spCheckKept (ga K "Web")) []) (F_rest_of : Cal P w K mg base 5 "rest_of" (spRest (ga K "Web")) []) (F_Web_ties : Met P w K mg base 1 (ga K "Web") "ties" (spTies (ga K "Web")) []) (F_Web_near : Met P w K mg base 2 (ga K "Web") "near" (spNear (ga K "Web")) []) (F_Web_price : Met P w K mg base 2 (ga K "Web") "price" (spPriceOf (ga K "Web")) []) (F_Web_places : Met P w K mg base 1 (ga K "Web") "places" (spPlaces (ga K "Web")) []) : Cal P w K mg base 6 "forced" (spForced (ga K "Web")) [] := by
  refine cal_of (D := d_forced) (T.says.def_ 29 rfl) T.g_forced (fun _ _ _ _ _ _ us hl => match us, hl with | [_, _], _ => rfl) sc_forced (fun vs H Q E h => ?_) (fun cdv A outer s H vs Q E hr h => ?_)
  · obtain ⟨_, p, kp, _, _, _, rfl, _⟩ := h
    rfl
  have hu := hu_of hr
  refine ⟨_, (pss_cons (ps_expr (pe_c F_check_kept hr (by decide) rfl (pa_cons (pv 0) (pa_cons (pv 1) pa_nil))))
    (C8.pss_cut (ps_for PassesOwn.never rfl (pi_list (pe_mt0 F_Web_ties hr (by decide) (pv 0))) (pg_tup rfl (pgs_cons (pg_name (i := 2) sc_forced.nd rfl (Or.inl rfl)) (pgs_cons (pg_name (i := 3) sc_forced.nd rfl (Or.inl rfl)) pgs_nil))) (pss_one (ps_if (PW.pt (pw_and (pt_cmp (pc_din hu (pv 2) (pv 1)) rfl) (pw_and (pt_cmp (pc_din hu (pv 3) (pv 1)) rfl) (pw_and1 (pt_cmpR op_lt (pe_op op_add (pe_dget hu (pv 1) (pv 2) (fun _ _ => rfl)) (pe_dget hu (pv 1) (pv 3) (fun _ _ => rfl))) pe_int (nomark _)))))) (pss_one (ps_ret pe_non)) pss_nil)))
    (pss_cons (ps_set (i := 5) sc_forced.nd rfl (Or.inr rfl) (pe_lock (pe_dc rfl sc_forced.nd (pi_keys (pv 1)) (blkOk_by (N := ["web", "kept", "a", "b", "place", "pinned", "other", "free", "spent"]) (sc := defScope s_forced) (own := [("place", 4)]) (by decide +kernel)) (fun _ _ _ _ _ => (pg_name (i := 4) sc_forced.nd rfl (Or.inl rfl))) (fun _ _ _ _ _ => pts_nil) (fun _ _ _ _ _ => (pv 4)) (fun _ _ _ _ _ => (pe_dget hu (pv 1) (pv 4) (fun _ _ => rfl))))))
    (C8.pss_cut (ps_lock (ps_for PassesOwn.never rfl (pi_keys (pv 1)) (pg_name (i := 4) sc_forced.nd rfl (Or.inl rfl)) (pss_one (ps_if (pt_cmpR op_eq (pe_dget hu (pv 1) (pv 4) (fun _ _ => rfl)) pe_int (nomark _)) (pss_one (ps_for PassesOwn.never rfl (pi_list (pe_mt F_Web_near hr (by decide) (pv 0) (pa_cons (pv 4) pa_nil))) (pg_name (i := 6) sc_forced.nd rfl (Or.inl rfl)) (pss_one (ps_if (pt_cmp (pc_dnotin hu (pv 6) (pv 1)) rfl) (pss_one (ps_dput hu (pv 5) (pv 6) pe_int rfl)) pss_nil)))) pss_nil))))
    (pss_cons (ps_setLc (i := 7) rfl sc_forced.nd rfl rfl (sw_true rfl rfl rfl (by decide +kernel)) (pi_list (pe_mt0 F_Web_places hr (by decide) (pv 0))) (blkOk_by (N := ["web", "kept", "a", "b", "place", "pinned", "other", "free", "spent"]) (sc := defScope s_forced) (own := [("place", 4)]) (by decide +kernel)) (fun _ _ _ _ _ => (pg_name (i := 4) sc_forced.nd rfl (Or.inl rfl))) (fun _ _ _ _ _ => pts_one (pt_cmp (pc_dnotin hu (pv 4) (pv 5)) rfl)) (fun _ _ _ _ _ => (pv 4)))
    (pss_cons (ps_set (i := 8) sc_forced.nd rfl (Or.inl rfl) (pe_callB (cr_sum rfl) (by rfl) T.f_sum (by decide +kernel) (pa_cons (pe_lock (pe_lc rfl sc_forced.nd (pi_keys (pv 5)) (blkOk_by (N := ["web", "kept", "a", "b", "place", "pinned", "other", "free", "spent"]) (sc := defScope s_forced) (own := [("place", 4)]) (by decide +kernel)) (fun _ _ _ _ _ => (pg_name (i := 4) sc_forced.nd rfl (Or.inl rfl))) (fun _ _ _ _ _ => pts_nil) (fun _ _ _ _ _ => (pe_op op_mul (pe_dget hu (pv 5) (pv 4) (fun _ _ => rfl)) (pe_mt F_Web_price hr (by decide) (pv 0) (pa_cons (pv 4) pa_nil)))))) pa_nil)))
    (pss_one (ps_ret (pe_op op_add (pv 8) (pe_c F_rest_of hr (by decide) rfl (pa_cons (pv 0) (pa_cons (pv 1) (pa_cons (pv 7) pa_nil))))))))))))), ?_⟩
  obtain ⟨H0, p, kp, a0, v, W, rfl, s0, AA, G, hk0, hk, ha0, hv0, hv2, k⟩ := h
  have A0 := AA.same s0
  obtain ⟨dx, dp, db, la, h1, h2, h3, h4⟩ := id A0.ex
  have hN28 := G.len
  -- check_kept(web, kept)
  refine ⟨_, rfl, _, rfl, H0, p, kp, a0, v, W, rfl, s0, AA, hk0, hk, ha0, hv0, hv2, fun H1 s1 => ?_⟩
  -- for a, b in web.ties()
  refine ⟨fun σ H' => ∃ ao bo, σ = [some (.ref p), some (.ref kp), ao, bo, none, none, none, none, none] ∧ Same H H', ?_, ?_⟩
  · refine ⟨_, rfl, p, dx, _, rfl, s1 _ _ h1, rfl, ?_⟩
    unfold tNil
    refine ⟨p, W, rfl, A0.same s1, G, fun H2 tl s2 htl hL => ?_⟩
    obtain ⟨us, htl2, hus⟩ := hL
    have t2 := s1.trans s2
    refine ⟨tl, rfl, ⟨_, SqL.of htl2⟩, ?_⟩
    refine for_list (K := K) (a := tl) (xs := us.map vR) (fun i σ H' => ∃ ao bo, σ = [some (.ref p), some (.ref kp), ao, bo, none, none, none, none, none] ∧ H' = H2) ⟨none, none, rfl, rfl⟩ (fun i σ H' _ ⟨_, _, _, e⟩ => e ▸ SqL.of htl2) ?_ ?_
    · rintro i x σ H3 hx ⟨ao, bo, rfl, rfl⟩
      obtain ⟨u, z, _, hz, rfl, hu⟩ := hus.get hx
      have hzm := mem_tiesOf.mp (List.mem_of_getElem? hz)
      refine ⟨u, _, rfl, .inl (.inl hu), rfl, _, _, rfl, _, _, rfl, rfl, ?_⟩
      refine ⟨_, rfl, _, rfl, kp, _, rfl, kept_get (.inl (t2 _ _ hk)), _, rfl, ?_⟩
      by_cases c1 : z.1 = a0
      · have c2 : z.2 ≠ a0 := fun e => slt_ne hzm.2.2.2 (c1.trans e.symm)
        rw [if_pos c1]
        refine iteT ⟨_, rfl, _, rfl, kp, _, rfl, kept_get (.inl (t2 _ _ hk)), _, rfl, ?_⟩
        rw [if_neg c2]
        exact iteF ⟨_, _, rfl, rfl⟩
      · rw [if_neg c1]
        exact iteF ⟨_, _, rfl, rfl⟩
    · rintro σ H3 ⟨ao, bo, rfl, rfl⟩
      exact ⟨ao, bo, rfl, t2⟩
  rintro σ H2 ⟨ao, bo, rfl, s2⟩
  -- pinned = {place: kept[place] for place in kept}
  refine ⟨kp, _, s2 _ _ hk, True.intro, fun od => ?_⟩
  have g2 : upd H2 kp (.frz od (.dK (keptS a0 v))) kp = some (.frz od (.dK (keptS a0 v))) := upd_same
  have hfin := fun H' s => L2.Same.unlock (H' := H') (f := .frz od (.dK (keptS a0 v))) (s2 _ _ hk) s
  have hfr : ∀ D, upd H2 kp (.frz od (.dK (keptS a0 v))) D = none → H2 D = none := fun D hD => by
    rw [upd_ne (Ne.symm (ne_of_none g2 hD))] at hD
    exact hD
  generalize upd H2 kp (.frz od (.dK (keptS a0 v))) = H3 at g2 hfin hfr ⊢
  refine ⟨_, rfl, kp, od, rfl, .inl ⟨_, g2, fun pd hpd => ?_⟩⟩
  refine dc_it (walk_keys (d := kp) (o := od) (kvs := keptS a0 v)) (fun i H' => H' = upd H3 pd (.dK (dS (pV a0 v) ([a0].take i)))) rfl (fun i H' _ e => by
      subst e
      exact (Same.new hpd) _ _ g2) ?_ ?_
  · rintro i x H4 H5 hi rfl ⟨rfl, kk, vv, hkk, rfl⟩
    obtain ⟨a, hai, rfl, _⟩ := dS_get hkk
    have e := List.mem_singleton.mp (List.mem_of_getElem? hai)
    subst e
    have hi0 : i = 0 := by
      have : i < 1 := hi
      omega
    subst hi0
    refine ⟨rfl, _, rfl, _, rfl, _, rfl, kp, _, rfl, dget_in (f := fun _ => V.int v) (.inr ⟨od, (Same.new hpd) _ _ g2⟩) (List.mem_singleton.mpr rfl), _, Sum.inr a, rfl, upd_same, by show 0 < sizeLine; decide, ?_⟩
    rw [upd_upd]
    have := putS_new (f := pV a v) (a := a) (l := []) (by simp)
    have e1 : pV a v a = V.int v := by unfold pV pinF; rw [if_pos rfl]
    rw [e1] at this
    exact congrArg (fun z => upd H3 pd (.dK z)) this
  rintro H4 rfl
  have e1 : [a0].take (keptS a0 v).length = pinL W a0 (if v = 0 then 1 else v) := by
    unfold pinL keptS
    rw [dS_length]
    by_cases c : v = 0
    · rw [if_pos c, if_neg (by decide)]; rfl
    · rw [if_neg c, if_neg c]; rfl
  have hpd2 := hfr pd hpd
  have hkpd : kp ≠ pd := ne_of_none g2 hpd
  refine ⟨(Same.new hpd) _ _ g2, ?_⟩
  have s5 : Same H2 (upd (upd H3 pd (.dK (dS (pV a0 v) ([a0].take (keptS a0 v).length)))) kp (.dK (keptS a0 v))) := hfin _ (Same.new hpd)
  have hp5 : upd (upd H3 pd (.dK (dS (pV a0 v) ([a0].take (keptS a0 v).length)))) kp (.dK (keptS a0 v)) pd = some (.dK (dS (pV a0 v) [a0])) := by
    rw [upd_ne (Ne.symm hkpd), upd_same]
    rfl
  generalize upd (upd H3 pd (.dK (dS (pV a0 v) ([a0].take (keptS a0 v).length)))) kp (.dK (keptS a0 v)) = H5 at s5 hp5 ⊢
  have t5 := s2.trans s5
  have hpd0 : H pd = none := s2.free hpd2
  clear hfin hfr e1
  -- for place in kept
  refine ⟨fun σ H' => ∃ po oo, σ = [some (.ref p), some (.ref kp), ao, bo, po, some (.ref pd), oo, none, none] ∧ Same H H' ∧ H' pd = some (.dK (dS (pV a0 v) (pinL W a0 v))), ?_, ?_⟩
  · refine ⟨kp, _, t5 _ _ hk, True.intro, fun od => ?_⟩
    have A1 : Same H0 (upd H5 kp (.frz od (.dK (keptS a0 v)))) := fun b o e => by rw [upd_ne (ne_of_none e hk0)]; exact t5 _ _ (s0 _ _ e)
    have g6 : upd H5 kp (.frz od (.dK (keptS a0 v))) kp = some (.frz od (.dK (keptS a0 v))) := upd_same
    have hfin := fun H' s => L2.Same.unlock (H' := H') (f := .frz od (.dK (keptS a0 v))) (t5 _ _ hk) s
    have hfin0 := fun H' s => L2.Same.unlock (H := H) (H' := H') (f := .frz od (.dK (keptS a0 v))) hk s
    have hs6 : Same (upd H kp (.frz od (.dK (keptS a0 v)))) (upd H5 kp (.frz od (.dK (keptS a0 v)))) := fun b o e => by
      by_cases c : b = kp
      · subst c
        rw [upd_same] at e ⊢
        exact e
      · rw [upd_ne c] at e ⊢
        exact t5 _ _ e
    have hp6 : upd H5 kp (.frz od (.dK (keptS a0 v))) pd = some (.dK (dS (pV a0 v) [a0])) := by rw [upd_ne (Ne.symm hkpd)]; exact hp5
    have hpd6 : upd H kp (.frz od (.dK (keptS a0 v))) pd = none := by rw [upd_ne (Ne.symm hkpd)]; exact hpd0
    generalize upd H5 kp (.frz od (.dK (keptS a0 v))) = H6 at A1 g6 hfin hs6 hp6 ⊢
    generalize upd H kp (.frz od (.dK (keptS a0 v))) = Hl at hfin0 hs6 hpd6
    refine ⟨_, rfl, kp, od, rfl, .inl ⟨_, g6, ?_⟩⟩
    refine for_it (walk_keys (d := kp) (o := od) (kvs := keptS a0 v)) (fun i σ H' => ∃ po oo, σ = [some (.ref p), some (.ref kp), ao, bo, po, some (.ref pd), oo, none, none] ∧ Same Hl H' ∧ H' kp = some (.frz od (.dK (keptS a0 v))) ∧ H' pd = some (.dK (dS (pV a0 v) (if i = 0 then [a0] else pinL W a0 v))) ∧ Same H0 H')
      ⟨none, none, rfl, hs6, g6, hp6, A1⟩ (fun i σ H' _ ⟨_, _, _, _, h, _⟩ => h) ?_ ?_
    · rintro i x σ H7 H8 hi ⟨po, oo, rfl, s7, g7, hp7, A7⟩ ⟨rfl, kk, vv, hkk, rfl⟩
      obtain ⟨a, hai, rfl, _⟩ := dS_get hkk
      have e := List.mem_singleton.mp (List.mem_of_getElem? hai)
      subst e
      have hi0 : i = 0 := by
        have : i < 1 := hi
        omega
      subst hi0
      rw [if_pos rfl] at hp7
      obtain ⟨dx7, dp7, db7, la7, b1, b2, b3, b4⟩ := id (AA.same A7).ex
      refine ⟨_, rfl, _, rfl, kp, _, rfl, dget_in (f := fun _ => V.int v) (.inr ⟨od, g7⟩) (List.mem_singleton.mpr rfl), rfl, _, rfl, ?_⟩
      refine ite2 (fun c => ?_) (fun c => ?_)
      · have c : v = 0 := by
          have := of_decide_eq_true c
          injection this
        -- for other in web.near(place)
        refine ⟨_, rfl, p, dx7, _, rfl, b1, rfl, _, rfl, p, a, W, rfl, AA.same A7, ha0, fun nl hnl => ⟨nl, rfl, ⟨_, SqL.of upd_same⟩, ?_⟩⟩
        have n8 : upd H8 nl (.lst ((W.N.filter (W.adj a)).map vS)) nl = some (.lst ((W.N.filter (W.adj a)).map vS)) := upd_same
        have s8 : Same H8 (upd H8 nl (.lst ((W.N.filter (W.adj a)).map vS))) := Same.new hnl
        generalize upd H8 nl (.lst ((W.N.filter (W.adj a)).map vS)) = H9 at n8 s8 ⊢
        have hnp : nl ≠ pd := ne_of n8 (s8 _ _ hp7) (by intro z; cases z)
        have hfl : (W.N.filter (W.adj a)).length ≤ 28 := Nat.le_trans (List.length_filter_le _ _) hN28
        refine for_list (K := K) (a := nl) (xs := (W.N.filter (W.adj a)).map vS) (fun j σ H' => ∃ oo, σ = [some (.ref p), some (.ref kp), ao, bo, some (.str a), some (.ref pd), oo, none, none] ∧ H' = upd H9 pd (.dK (dS (pV a v) (a :: (W.N.filter (W.adj a)).take j))))
          ⟨oo, rfl, ?_⟩ (fun j σ H' _ ⟨_, _, e⟩ => by rw [e]; exact SqL.of (by rw [upd_ne hnp]; exact n8)) ?_ ?_
        · rw [List.take_zero]
          funext b
          by_cases e : b = pd
          · subst e; rw [upd_same]; exact s8 _ _ hp7
          · rw [upd_ne e]
        · rintro j y σ H10 hy ⟨oo, rfl, rfl⟩
          obtain ⟨b, hb, rfl⟩ := str_get hy
          have hba : b ≠ a := fun e => by
            have := (List.mem_filter.mp (List.mem_of_getElem? hb)).2
            rw [e, G.ok.irr] at this
            cases this
          refine ⟨_, rfl, _, rfl, kp, _, rfl, kept_get (.inr ⟨od, by rw [upd_ne hkpd]; exact s8 _ _ g7⟩), _, rfl, ?_⟩
          rw [if_neg hba]
          have hnd := pinL_nodup G a v
          unfold pinL at hnd
          rw [if_pos c] at hnd
          have hb2 : (a :: W.N.filter (W.adj a))[j + 1]? = some b := by rw [List.getElem?_cons_succ]; exact hb
          have hnot := nodup_take_get hnd hb2
          rw [List.take_succ_cons] at hnot
          have ev : V.int 2 = pV a v b := by unfold pV pinF; rw [if_neg hba]
          refine iteT ⟨_, rfl, _, rfl, pd, _, rfl, by rw [ev]; exact dput_new upd_same hnot (by rw [List.length_cons, List.length_take]; omega), ?_⟩
          refine ⟨_, rfl, ?_⟩
          rw [upd_upd, take_succ_get hb]
          rfl
        · rintro σ H10 ⟨oo, rfl, rfl⟩
          rw [List.length_map, List.take_length]
          have hpp : p ≠ pd := ne_of (s8 _ _ b1) (s8 _ _ hp7) (by intro z; cases z)
          have s10 : Same Hl (upd H9 pd (.dK (dS (pV a v) (a :: W.N.filter (W.adj a))))) := (s7.trans s8).mut hpd6
          refine ⟨_, oo, rfl, s10, by rw [upd_ne hkpd]; exact s8 _ _ g7, ?_, (A7.trans s8).mut (s0.free hpd0)⟩
          rw [upd_same, if_neg (by omega)]
          unfold pinL
          rw [if_pos c]
      · have c : v ≠ 0 := fun z => c (decide_eq_true (by rw [z]))
        refine ⟨_, oo, rfl, s7, g7, ?_, A7⟩
        rw [hp7, if_neg (by omega)]
        unfold pinL
        rw [if_neg c]
    · rintro σ H7 ⟨po, oo, rfl, s7, g7, hp7, A7⟩
      refine ⟨g7, po, oo, rfl, hfin0 _ s7, ?_⟩
      rw [upd_ne (Ne.symm hkpd), hp7]
      rfl
  rintro σ H7 ⟨po, oo, rfl, s7, hp7⟩
  have A7 := A0.same s7
  -- free = [place for place in web.places() if place not in pinned]
  refine ⟨_, rfl, p, dx, _, rfl, s7 _ _ h1, rfl, ?_⟩
  unfold tNil
  refine ⟨p, W, rfl, A7, fun pl hpl => ⟨pl, rfl, ⟨_, SqL.of upd_same⟩, fun fq hfq => ?_⟩⟩
  have s8 : Same H7 (upd H7 pl (.lst (W.N.map vS))) := Same.new hpl
  have l8 : upd H7 pl (.lst (W.N.map vS)) pl = some (.lst (W.N.map vS)) := upd_same
  generalize upd H7 pl (.lst (W.N.map vS)) = H8 at s8 l8 hfq ⊢
  have hp8 := s8 _ _ hp7
  refine lc_list (K := K) (a := pl) (xs := W.N.map vS) (fun i H' => H' = upd H8 fq (.lst (((W.N.take i).filter fun a => !(decide (a ∈ pinL W a0 v))).map vS))) (by rw [List.take_zero]; rfl) (fun i H' _ e => by
      subst e
      exact SqL.of ((Same.new hfq) _ _ l8)) ?_ ?_
  · rintro i x H9 hx rfl
    obtain ⟨b, hb, rfl⟩ := str_get hx
    refine ⟨rfl, _, rfl, _, rfl, pd, _, rfl, pin_get (.inl ((Same.new hfq) _ _ hp8)), _, rfl, ?_⟩
    by_cases c : b ∈ pinL W a0 v
    · rw [if_pos c]
      refine iteF ?_
      rw [take_succ_get hb, List.filter_append, List.filter_cons_of_neg (by simp [c]), List.filter_nil, List.append_nil]
    · rw [if_neg c]
      refine iteT ⟨_, rfl, _, upd_same, ?_, ?_⟩
      · rw [List.length_map]
        exact small_lt (Nat.lt_of_le_of_lt (List.length_filter_le _ _) (by rw [List.length_take]; omega))
      · rw [upd_upd, take_succ_get hb, List.filter_append, List.filter_cons_of_pos (by simp [c]), List.map_append]
        rfl
  rintro H9 rfl
  rw [List.length_map, List.take_length, pinL_free]
  have s9 : Same H8 (upd H8 fq (.lst ((W.free a0 v).map vS))) := Same.new hfq
  have f9 : upd H8 fq (.lst ((W.free a0 v).map vS)) fq = some (.lst ((W.free a0 v).map vS)) := upd_same
  generalize upd H8 fq (.lst ((W.free a0 v).map vS)) = H9 at s9 f9 ⊢
  have t9 := s7.trans (s8.trans s9)
  have hp9 := s9 _ _ hp8
  -- spent = sum([pinned[place] * web.price(place) for place in pinned])
  refine ⟨pd, _, hp9, True.intro, fun od => ?_⟩
  have A10 : WebAt (ga K "Web") (upd H9 pd (.frz od (.dK (dS (pV a0 v) (pinL W a0 v))))) p W := A0.same (t9.mut hpd0)
  have g10 : upd H9 pd (.frz od (.dK (dS (pV a0 v) (pinL W a0 v)))) pd = some (.frz od (.dK (dS (pV a0 v) (pinL W a0 v)))) := upd_same
  have hfin := fun H' s => L2.Same.unlock (H' := H') (f := .frz od (.dK (dS (pV a0 v) (pinL W a0 v)))) hp9 s
  generalize upd H9 pd (.frz od (.dK (dS (pV a0 v) (pinL W a0 v)))) = H10 at A10 g10 hfin ⊢
  refine ⟨_, rfl, pd, od, rfl, .inl ⟨_, g10, fun L hL => ?_⟩⟩
  have hplen : (pinL W a0 v).length ≤ 29 := by
    unfold pinL
    rw [List.length_cons]
    split
    · have := List.length_filter_le (W.adj a0) W.N
      omega
    · show 0 + 1 ≤ 29
      omega
  have hLpd : pd ≠ L := ne_of_none g10 hL
  refine lc_it (walk_keys (d := pd) (o := od) (kvs := dS (pV a0 v) (pinL W a0 v))) (fun i H' => H' = upd H10 L (.lst ((((pinL W a0 v).take i).map fun b => pinF a0 v b * W.pr b).map V.int))) (by rw [List.take_zero]; rfl) (fun i H' _ e => by
      subst e
      exact (Same.new hL) _ _ g10) ?_ ?_
  · rintro i x H11 H12 hi rfl ⟨rfl, kk, vv, hkk, rfl⟩
    obtain ⟨b, hb, rfl, _⟩ := dS_get hkk
    have hbm := List.mem_of_getElem? hb
    have A11 := A10.same (Same.new (o := .lst ((((pinL W a0 v).take i).map fun b => pinF a0 v b * W.pr b).map V.int)) hL)
    obtain ⟨dx11, dp11, db11, la11, b1, b2, b3, b4⟩ := id A11.ex
    have hpf : 0 ≤ pinF a0 v b ∧ pinF a0 v b ≤ 2 := by
      unfold pinF
      split
      · exact ⟨hv0, hv2⟩
      · exact ⟨by decide, by decide⟩
    refine ⟨rfl, _, rfl, _, rfl, pd, _, rfl, dget_in (.inr ⟨od, (Same.new hL) _ _ g10⟩) hbm, _, rfl, p, dx11, _, rfl, b1, rfl, _, rfl, p, b, W, rfl, A11, pinL_sub ha0 b hbm, _, _, rfl, rfl, .inl ⟨by omega, by omega⟩, _, upd_same, by rw [List.length_map, List.length_map, List.length_take]; exact small_lt (by omega), ?_⟩
    rw [upd_upd, take_succ_get hb, List.map_append, List.map_append]
    rfl
  rintro H11 rfl
  rw [dS_length, List.take_length]
  refine ⟨(Same.new hL) _ _ g10, ?_⟩
  have s12 := hfin _ (Same.new (o := .lst (((pinL W a0 v).map fun b => pinF a0 v b * W.pr b).map V.int)) hL)
  have l12 : upd (upd H10 L (.lst (((pinL W a0 v).map fun b => pinF a0 v b * W.pr b).map V.int))) pd (.dK (dS (pV a0 v) (pinL W a0 v))) L = some (.lst (((pinL W a0 v).map fun b => pinF a0 v b * W.pr b).map V.int)) := by rw [upd_ne (Ne.symm hLpd), upd_same]
  generalize upd (upd H10 L (.lst (((pinL W a0 v).map fun b => pinF a0 v b * W.pr b).map V.int))) pd (.dK (dS (pV a0 v) (pinL W a0 v))) = H12 at s12 l12 ⊢
  refine ⟨L, _, rfl, SqL.of l12, ?_⟩
  rw [pinL_sum G]
  have t12 := t9.trans s12
  -- return spent + rest_of(web, kept, free)
  refine ⟨_, rfl, _, rfl, _, rfl, _, rfl, p, kp, fq, a0, v, W.free a0 v, W, rfl, A0.same t12, G, t12 _ _ hk, s12 _ _ f9, G.ok.nodup.filter _, fun a h => (List.mem_filter.mp h).1, Nat.le_trans (List.length_filter_le _ _) hN28, ha0, fun H13 t s13 hG => ?_⟩
  exact ⟨_, _, rfl, rfl, k _ _ (t12.trans s13) (forced_ok G.ok ha0 hv0 hv2 hG)⟩
end HW

set_option Elab.async false
set_option linter.all false
set_option maxRecDepth 100000
set_option maxHeartbeats 4000000
set_option pp.maxSteps 400
set_option pp.fieldNotation false
namespace HW
open PySem PySem.Spec PyProof.Rows L2 He
open C8 (Cal Met Mak pe_c pe_mk pe_mt pe_mt0 pe_gc InsC call_isC)
open HP
structure CurveAt (C : Addr) (H : Hp) (p : Addr) (r : Int → Int) : Prop where
  ex : ∃ dx tp, H p = some (.ins C dx [("_rests", .ref tp)]) ∧ H tp = some (.tup (lmap 3 fun i => V.int (r (i : Int))))
theorem CurveAt.same {C : Addr} {H H' : Hp} {p : Addr} {r : Int → Int} (h : CurveAt C H p r) (s : Same H H') : CurveAt C H' p r := by
  obtain ⟨dx, tp, h1, h2⟩ := h.ex
  exact ⟨dx, tp, s _ _ h1, s _ _ h2⟩
/-- the rests of a in W -/
def Rests (W : WebD Str) (a : Str) (r : Int → Int) : Prop := ∀ i, 0 ≤ i → i ≤ 2 → W.Forced a i (r i + i * W.pr a)
def spCurve (C CW : Addr) : Sp := fun vs H Q _ => ∃ (H0 : Hp) (p dx wp : Addr) (a : Str) (W : WebD Str), vs = [.ref p, .ref wp, .str a] ∧ Same H0 H ∧ H0 p = none ∧ H p = some (.ins C dx []) ∧ WebAt CW H0 wp W ∧ WebG W ∧ a ∈ W.N ∧
  ∀ H' r, Same H0 H' → CurveAt C H' p r → Rests W a r → Q .non H'

theorem sc_Curve_init : FnScope ["self", "web", "place", "own", "value"] ["self", "web", "place"] (defScope s_Curve_init) := ⟨rfl, rfl, rfl, by decide +kernel, rfl, by decide +kernel, by decide +kernel⟩

theorem ok_Curve_init {P : Program} {w : World} {K : PySem.W.Frag} {mg : Str → Option Value} {base : Heap} (T : Txt K mg) (F_forced : Cal P w K mg base 6 "forced" (spForced (ga K "Web")) []) (F_Web_price : Met P w K mg base 2 (ga K "Web") "price" (spPriceOf (ga K "Web")) []) (F_Web_contains : Met P w K mg base 1 (ga K "Web") "__contains__" (spContains (ga K "Web")) []) : Mak P w K mg base 7 "Curve" (ga K "Curve") (spCurve (ga K "Curve") (ga K "Web")) [] := by
  refine mak_of (D := d_Curve_init) (T.says.def_ 31 rfl) T.mk_Curve T.g_Curve (fun _ _ _ _ _ _ us hl => match us, hl with | [_, _, _], _ => rfl) sc_Curve_init (fun vs H Q E h => ?_) (fun cdv A outer s H vs Q E hr h => ?_)
  · obtain ⟨_, p, _, wp, a, _, rfl, _⟩ := h
    rfl
  have hu := hu_of hr
  refine ⟨_, (pss_cons (ps_if (pt_cmpR (op_notInM F_Web_contains hr (by decide)) (pv 2) (pv 1) rfl) (pss_one (ps_never)) pss_nil)
    (pss_cons (ps_set (i := 3) sc_Curve_init.nd rfl (Or.inr rfl) (pe_mt F_Web_price hr (by decide) (pv 1) (pa_cons (pv 2) pa_nil)))
    (pss_one (ps_fld (pv 0) (pe_callTy call_tuple_of (by rfl) T.f_tuple (by decide +kernel) (pa_cons (pe_lc rfl sc_Curve_init.nd (pi_range1 (by rfl) T.f_range (pa_cons pe_int pa_nil)) (blkOk_by (N := ["self", "web", "place", "own", "value"]) (sc := defScope s_Curve_init) (own := [("value", 4)]) (by decide +kernel)) (fun _ _ _ _ _ => (pg_name (i := 4) sc_Curve_init.nd rfl (Or.inl rfl))) (fun _ _ _ _ _ => pts_nil) (fun _ _ _ _ _ => (pe_op op_sub (pe_c F_forced hr (by decide) rfl (pa_cons (pv 1) (pa_cons (pe_disp (pps_cons (pv 2) (pv 4) pps_nil) (by rfl) (by rfl) (fun z => by cases z) (by decide)) pa_nil))) (pe_op op_mul (pv 4) (pv 3))))) pa_nil)) rfl)))), ?_⟩
  obtain ⟨H0, p, dx, wp, a, W, rfl, s0, hp0, hp, AA, G, ha, k⟩ := h
  have A0 := AA.same s0
  obtain ⟨wx, dp, db, la, a1, a2, a3, a4⟩ := id A0.ex
  refine ⟨_, rfl, _, rfl, wp, wx, _, rfl, a1, wp, a, W, rfl, A0, true, by rw [decide_eq_true ha], false, rfl, iteF ?_⟩
  refine ⟨_, rfl, wp, wx, _, rfl, a1, rfl, _, rfl, wp, a, W, rfl, A0, ha, ?_⟩
  refine ⟨_, rfl, by decide, by decide, fun L hL => ?_⟩
  refine lc_range (lo := 0) (fun i H' => ∃ r : Int → Int, Same H H' ∧ H' L = some (.lst (lmap i fun j => V.int (r (j : Int)))) ∧ ∀ j : Nat, j < i → W.Forced a (j : Int) (r (j : Int) + (j : Int) * W.pr a)) ⟨fun _ => 0, Same.new hL, upd_same, fun j hj => by omega⟩ ?_ ?_
  · rintro i H1 hi ⟨r, s1, hL1, hr1⟩
    have hi3 : i < 3 := hi
    refine ⟨rfl, _, rfl, fun kp hkp => ⟨_, rfl, _, rfl, upd_same, [(Sum.inr a, V.int (0 + (i : Int)))], rfl, by show 1 ≤ 15; decide, ?_⟩⟩
    rw [upd_upd]
    have s2 : Same H1 (upd H1 kp (.dK (keptS a (0 + (i : Int))))) := Same.new hkp
    refine ⟨H1, wp, kp, a, 0 + (i : Int), W, rfl, s2, A0.same s1, G, hkp, upd_same, ha, by omega, by omega, fun H3 t s3 hF => ?_⟩
    have s13 := (s1.trans s2).trans s3
    refine ⟨_, rfl, _, rfl, _, _, rfl, rfl, .inl ⟨by omega, by omega⟩, _, _, rfl, rfl, _, s3 _ _ (s2 _ _ hL1), by rw [lmap_length]; exact small_lt (by omega), fun j => if j = (i : Int) then t - (0 + (i : Int)) * W.pr a else r j, s13.mut hL, ?_, fun j hj => ?_⟩
    · rw [upd_same, lmap_snoc]
      dsimp only
      rw [if_pos rfl, lmap_congr (g := fun j => V.int (if (j : Int) = (i : Int) then t - (0 + (i : Int)) * W.pr a else r (j : Int))) (fun j hj => by rw [if_neg (by omega)])]
    · dsimp only
      by_cases e : (j : Int) = (i : Int)
      · rw [if_pos e, e]
        rw [Int.zero_add] at hF ⊢
        have e2 : t - (i : Int) * W.pr a + (i : Int) * W.pr a = t := by omega
        rw [e2]
        exact hF
      · rw [if_neg e]
        exact hr1 j (by omega)
  rintro H1 ⟨r, s1, hL1, hr1⟩
  have e3 : (3 : Int).toNat = 3 := rfl
  refine ⟨L, _, rfl, .inl ⟨SqL.of hL1, fun tp htp => ?_⟩⟩
  have s2 : Same H (upd H1 tp (.tup (lmap 3 fun j => V.int (r (j : Int))))) := s1.trans (Same.new htp)
  have t2 : upd H1 tp (.tup (lmap 3 fun j => V.int (r (j : Int)))) tp = some (.tup (lmap 3 fun j => V.int (r (j : Int)))) := upd_same
  refine ⟨_, rfl, p, _, dx, _, rfl, s2 _ _ hp, T.c_Curve, T.n_Curve_rests, lt1000 0 rfl rfl, ?_⟩
  refine k _ r ((s0.trans s2).mut hp0) ⟨dx, tp, upd_same, ?_⟩ fun i h0 h2 => ?_
  · rw [upd_ne (ne_of t2 (s2 _ _ hp) (by intro z; cases z))]
    exact t2
  · have e : i = ((i.toNat : Nat) : Int) := by omega
    rw [e]
    exact hr1 i.toNat (by show i.toNat < 3; omega)
def spGet (C : Addr) (i : Nat) : Sp := fun vs H Q _ => ∃ (p : Addr) (r : Int → Int), vs = [.ref p] ∧ CurveAt C H p r ∧ Q (.int (r (i : Int))) H

theorem sc_Curve_none : FnScope ["self"] ["self"] (defScope s_Curve_none) := ⟨rfl, rfl, rfl, by decide +kernel, rfl, by decide +kernel, by decide +kernel⟩

theorem ok_Curve_none {P : Program} {w : World} {K : PySem.W.Frag} {mg : Str → Option Value} {base : Heap} (T : Txt K mg)  : Prp P w K mg base 1 (ga K "Curve") "none" (spGet (ga K "Curve") 0) := by
  refine prp_of (D := d_Curve_none) (T.says.def_ 44 rfl) T.c_Curve T.p_Curve_none (fun _ _ _ _ _ _ us hl => match us, hl with | [_], _ => rfl) sc_Curve_none (fun vs H Q E h => ?_) (fun cdv A outer s H vs Q E hr h => ?_)
  · obtain ⟨p, _, rfl, _⟩ := h
    rfl
  have hu := hu_of hr
  refine ⟨_, (pss_one (ps_ret (pe_ix ix_tup (pe_fld (pv 0) (by rfl)) pe_int (fun _ _ => rfl)))), ?_⟩
  obtain ⟨p, r, rfl, ⟨dx, tp, h1, h2⟩, k⟩ := h
  exact ⟨_, rfl, p, _, dx, _, _, rfl, h1, T.c_Curve, T.n_Curve_rests, rfl, _, _, _, _, rfl, rfl, SqT.of h2, atI_lmap (t := 0) (by omega), k⟩
theorem sc_Curve_half : FnScope ["self"] ["self"] (defScope s_Curve_half) := ⟨rfl, rfl, rfl, by decide +kernel, rfl, by decide +kernel, by decide +kernel⟩

theorem ok_Curve_half {P : Program} {w : World} {K : PySem.W.Frag} {mg : Str → Option Value} {base : Heap} (T : Txt K mg)  : Prp P w K mg base 1 (ga K "Curve") "half" (spGet (ga K "Curve") 1) := by
  refine prp_of (D := d_Curve_half) (T.says.def_ 45 rfl) T.c_Curve T.p_Curve_half (fun _ _ _ _ _ _ us hl => match us, hl with | [_], _ => rfl) sc_Curve_half (fun vs H Q E h => ?_) (fun cdv A outer s H vs Q E hr h => ?_)
  · obtain ⟨p, _, rfl, _⟩ := h
    rfl
  have hu := hu_of hr
  refine ⟨_, (pss_one (ps_ret (pe_ix ix_tup (pe_fld (pv 0) (by rfl)) pe_int (fun _ _ => rfl)))), ?_⟩
  obtain ⟨p, r, rfl, ⟨dx, tp, h1, h2⟩, k⟩ := h
  exact ⟨_, rfl, p, _, dx, _, _, rfl, h1, T.c_Curve, T.n_Curve_rests, rfl, _, _, _, _, rfl, rfl, SqT.of h2, atI_lmap (t := 1) (by omega), k⟩
theorem sc_Curve_both : FnScope ["self"] ["self"] (defScope s_Curve_both) := ⟨rfl, rfl, rfl, by decide +kernel, rfl, by decide +kernel, by decide +kernel⟩

theorem ok_Curve_both {P : Program} {w : World} {K : PySem.W.Frag} {mg : Str → Option Value} {base : Heap} (T : Txt K mg)  : Prp P w K mg base 1 (ga K "Curve") "both" (spGet (ga K "Curve") 2) := by
  refine prp_of (D := d_Curve_both) (T.says.def_ 46 rfl) T.c_Curve T.p_Curve_both (fun _ _ _ _ _ _ us hl => match us, hl with | [_], _ => rfl) sc_Curve_both (fun vs H Q E h => ?_) (fun cdv A outer s H vs Q E hr h => ?_)
  · obtain ⟨p, _, rfl, _⟩ := h
    rfl
  have hu := hu_of hr
  refine ⟨_, (pss_one (ps_ret (pe_ix ix_tup (pe_fld (pv 0) (by rfl)) pe_int (fun _ _ => rfl)))), ?_⟩
  obtain ⟨p, r, rfl, ⟨dx, tp, h1, h2⟩, k⟩ := h
  exact ⟨_, rfl, p, _, dx, _, _, rfl, h1, T.c_Curve, T.n_Curve_rests, rfl, _, _, _, _, rfl, rfl, SqT.of h2, atI_lmap (t := 2) (by omega), k⟩
def spSums (C : Addr) : Sp := fun vs H Q _ => ∃ (p : Addr) (c : Int) (r : Int → Int), vs = [.ref p, .int c] ∧ CurveAt C H p r ∧ 1 ≤ c ∧ c ≤ maxPrice ∧ ∀ H' q, Same H H' → H' q = some (.lst (lmap 3 fun i => V.int (r (i : Int) + (i : Int) * c))) → Q (.ref q) H'

theorem sc_Curve_sums : FnScope ["self", "price", "value", "rest"] ["self", "price"] (defScope s_Curve_sums) := ⟨rfl, rfl, rfl, by decide +kernel, rfl, by decide +kernel, by decide +kernel⟩

theorem ok_Curve_sums {P : Program} {w : World} {K : PySem.W.Frag} {mg : Str → Option Value} {base : Heap} (T : Txt K mg) (F_is_price : Cal P w K mg base 2 "is_price" spIsPrice []) : Met P w K mg base 3 (ga K "Curve") "sums" (spSums (ga K "Curve")) [] := by
  refine met_of (D := d_Curve_sums) (T.says.def_ 33 rfl) T.c_Curve T.m_Curve_sums (fun _ _ _ _ _ _ us hl => match us, hl with | [_, _], _ => rfl) sc_Curve_sums (fun vs H Q E h => ?_) (fun cdv A outer s H vs Q E hr h => ?_)
  · obtain ⟨p, c, _, rfl, _⟩ := h
    rfl
  have hu := hu_of hr
  refine ⟨_, (pss_cons (ps_if (pt_not (pt_val (pe_c F_is_price hr (by decide) rfl (pa_cons (pv 1) pa_nil)))) (pss_one (ps_never)) pss_nil)
    (pss_one (ps_ret (pe_lc rfl sc_Curve_sums.nd (pi_enumT (by rfl) T.f_enumerate (pa_cons (pe_fld (pv 0) (by rfl)) pa_nil)) (blkOk_by (N := ["self", "price", "value", "rest"]) (sc := defScope s_Curve_sums) (own := [("value", 2), ("rest", 3)]) (by decide +kernel)) (fun _ _ _ _ _ => (pg_tup_k (K := K) (n := 2) rfl rfl (pgs_cons (pg_name (i := 2) sc_Curve_sums.nd rfl (Or.inl rfl)) (pgs_cons (pg_name (i := 3) sc_Curve_sums.nd rfl (Or.inl rfl)) pgs_nil)))) (fun _ _ _ _ _ => pts_nil) (fun _ _ _ _ _ => (pe_op op_add (pv 3) (pe_op op_mul (pv 2) (pv 1)))))))), ?_⟩
  obtain ⟨p, c, r, rfl, ⟨dx, tp, h1, h2⟩, hc1, hc2, k⟩ := h
  refine ⟨_, rfl, c, rfl, ⟨hc1, hc2⟩, _, rfl, iteF ?_⟩
  refine ⟨_, rfl, p, _, dx, _, _, rfl, h1, T.c_Curve, T.n_Curve_rests, rfl, tp, _, rfl, SqT.of h2, fun L hL => ?_⟩
  refine lc_it (walk_enumT (K := K) (a := tp) (xs := lmap 3 fun i => V.int (r (i : Int)))) (fun i H' => Same H H' ∧ H' L = some (.lst (lmap i fun i => V.int (r (i : Int) + (i : Int) * c)))) ⟨Same.new hL, upd_same⟩ (fun i H' _ e => SqT.of (e.1 _ _ h2)) ?_ ?_
  · rintro i x H1 H2 hi ⟨s1, hL1⟩ ⟨t, x1, x2, rfl, ht, rfl, e1, e2⟩
    cases e1
    obtain ⟨hi3, rfl⟩ := lmap_get' e2
    refine ⟨t, _, rfl, .inl (.inl upd_same), rfl, _, _, rfl, _, _, rfl, rfl, rfl, _, rfl, _, rfl, _, rfl, _, _, rfl, rfl, .inl ⟨by omega, by omega⟩, _, _, rfl, rfl, _, (Same.new ht) _ _ hL1, by rw [lmap_length]; exact small_lt (by omega), (s1.trans (Same.new ht)).mut hL, ?_⟩
    rw [upd_same, lmap_snoc]
  rintro H1 ⟨s1, hL1⟩
  rw [lmap_length] at hL1
  exact k _ L s1 hL1
def spCallC (C : Addr) : Sp := fun vs H Q _ => ∃ (p : Addr) (c : Int) (r : Int → Int), vs = [.ref p, .int c] ∧ CurveAt C H p r ∧ 1 ≤ c ∧ c ≤ maxPrice ∧ ∀ H' m, Same H H' → (∃ i, 0 ≤ i ∧ i ≤ 2 ∧ r i + i * c = m) → (∀ i, 0 ≤ i → i ≤ 2 → m ≤ r i + i * c) → Q (.int m) H'

theorem sc_Curve_call : FnScope ["self", "price"] ["self", "price"] (defScope s_Curve_call) := ⟨rfl, rfl, rfl, by decide +kernel, rfl, by decide +kernel, by decide +kernel⟩

theorem ok_Curve_call {P : Program} {w : World} {K : PySem.W.Frag} {mg : Str → Option Value} {base : Heap} (T : Txt K mg) (F_Curve_sums : Met P w K mg base 3 (ga K "Curve") "sums" (spSums (ga K "Curve")) []) : Met P w K mg base 4 (ga K "Curve") "__call__" (spCallC (ga K "Curve")) [] := by
  refine met_of (D := d_Curve_call) (T.says.def_ 32 rfl) T.c_Curve T.m_Curve_call (fun _ _ _ _ _ _ us hl => match us, hl with | [_, _], _ => rfl) sc_Curve_call (fun vs H Q E h => ?_) (fun cdv A outer s H vs Q E hr h => ?_)
  · obtain ⟨p, c, _, rfl, _⟩ := h
    rfl
  have hu := hu_of hr
  refine ⟨_, (pss_one (ps_ret (pe_callB (cr_min rfl) (by rfl) T.f_min (by decide +kernel) (pa_cons (pe_mt F_Curve_sums hr (by decide) (pv 0) (pa_cons (pv 1) pa_nil)) pa_nil)))), ?_⟩
  obtain ⟨p, c, r, rfl, A, hc1, hc2, k⟩ := h
  obtain ⟨dx, tp, h1, h2⟩ := id A.ex
  refine ⟨_, rfl, p, dx, _, rfl, h1, rfl, _, rfl, p, c, r, rfl, A, hc1, hc2, fun H1 q s1 hq => ?_⟩
  refine ⟨q, lmap 3 fun i => r (i : Int) + (i : Int) * c, rfl, SqL.of (by rw [lmap_map]; exact hq), by rw [lmap_length]; decide, fun m hm hle => ?_⟩
  refine k _ m s1 ?_ fun i h0 h2 => ?_
  · obtain ⟨i, hi, e⟩ := lmap_mem.mp hm
    exact ⟨(i : Int), by omega, by omega, e⟩
  · refine hle _ (lmap_mem.mpr ⟨i.toNat, by omega, ?_⟩)
    rw [show ((i.toNat : Nat) : Int) = i by omega]
end HW

set_option Elab.async false
set_option linter.all false
set_option maxRecDepth 100000
set_option maxHeartbeats 4000000
set_option pp.maxSteps 400
set_option pp.fieldNotation false
namespace HW
open PySem PySem.Spec PyProof.Rows L2 He
open C8 (Cal Met Mak pe_c pe_mk pe_mt pe_mt0 pe_gc InsC call_isC)
open HP
theorem dv_ok {i j : Int} (h0 : 0 < j) (h : j ≤ maxPrice) : CDivW i j :=
  wide_div (b := 100) h0 (Nat.lt_of_le_of_lt (m := 1000000000000000000000000000000) (by have : j ≤ 1000000000000000000000000000000 := h; omega) (by decide)) (by decide) (by decide)
def spStream (K : PySem.W.Frag) : Sp := fun vs H Q _ => ∃ (sp : Addr) (cells : List Int) (i : Nat), vs = [.ref sp, .int (i : Int)] ∧ SqL K H sp (cells.map vI) ∧ ∀ q c d, H q = none → Q (.ref q) (upd H q (.lst [.int c, .int d]))

theorem sc_lstream : FnScope ["_law_script", "_law_k", "_law_cell"] ["_law_script", "_law_k"] (defScope s_lstream) := ⟨rfl, rfl, rfl, by decide +kernel, rfl, by decide +kernel, by decide +kernel⟩

theorem ok_lstream {P : Program} {w : World} {K : PySem.W.Frag} {mg : Str → Option Value} {base : Heap} (T : Txt K mg)  : Cal P w K mg base 1 "_law_stream" (spStream K) [] := by
  refine cal_of (D := d_lstream) (T.says.def_ 34 rfl) T.g__law_stream (fun _ _ _ _ _ _ us hl => match us, hl with | [_, _], _ => rfl) sc_lstream (fun vs H Q E h => ?_) (fun cdv A outer s H vs Q E hr h => ?_)
  · obtain ⟨sp, _, i, rfl, _⟩ := h
    rfl
  have hu := hu_of hr
  refine ⟨_, (pss_cons (ps_set (i := 2) sc_lstream.nd rfl (Or.inl rfl) pe_int)
    (pss_cons (ps_if (pt_cmpR op_lt (pv 1) (pe_callB call_len_seq (by rfl) T.f_len (by decide +kernel) (pa_cons (pv 0) pa_nil)) (nomark _)) (pss_one (ps_set (i := 2) sc_lstream.nd rfl (Or.inl rfl) (pe_ix ix_list (pv 0) (pv 1) (fun _ _ => rfl)))) pss_nil)
    (pss_one (ps_ret (pe_lst (pa_cons (pv 2) (pa_cons (pe_op op_add pe_int (pe_op op_mul pe_int (pv 1))) pa_nil))))))), ?_⟩
  obtain ⟨sp, cells, i, rfl, hs, k⟩ := h
  refine ⟨_, rfl, _, rfl, _, _, rfl, .inl (hs), _, _, rfl, rfl, _, rfl, ?_⟩
  refine ite2 (fun c => ?_) (fun c => ?_)
  · have c : (i : Int) < ((cells.map vI).length : Nat) := of_decide_eq_true c
    rw [List.length_map] at c
    have c : i < cells.length := by omega
    have hg : atI (cells.map vI) (i : Int) = some (.int cells[i]) := atI_nat (by rw [List.getElem?_map, List.getElem?_eq_getElem c]; rfl)
    refine ⟨_, rfl, _, rfl, _, _, _, _, rfl, rfl, hs, hg, ?_⟩
    exact ⟨_, rfl, _, rfl, _, _, rfl, rfl, .inl ⟨by decide, by decide⟩, _, _, rfl, rfl, by show 2 ≤ sizeLine; decide, fun q hq => k q _ _ hq⟩
  · exact ⟨_, rfl, _, rfl, _, _, rfl, rfl, .inl ⟨by decide, by decide⟩, _, _, rfl, rfl, by show 2 ≤ sizeLine; decide, fun q hq => k q _ _ hq⟩
def spDraw : Sp := fun vs H Q _ => ∃ (s : Addr) (c d m : Int), vs = [.ref s, .int m] ∧ H s = some (.lst [.int c, .int d]) ∧ 0 < m ∧ m ≤ maxPrice ∧ ∀ c' d' r, 0 ≤ r → r < m → Q (.int r) (upd H s (.lst [.int c', .int d']))

theorem sc_ldraw : FnScope ["_law_stream_here", "_law_many", "_law_found", "_law_mixed"] ["_law_stream_here", "_law_many"] (defScope s_ldraw) := ⟨rfl, rfl, rfl, by decide +kernel, rfl, by decide +kernel, by decide +kernel⟩

theorem ok_ldraw {P : Program} {w : World} {K : PySem.W.Frag} {mg : Str → Option Value} {base : Heap} (T : Txt K mg)  : Cal P w K mg base 1 "_law_draw" (spDraw) [] := by
  refine cal_of (D := d_ldraw) (T.says.def_ 35 rfl) T.g__law_draw (fun _ _ _ _ _ _ us hl => match us, hl with | [_, _], _ => rfl) sc_ldraw (fun vs H Q E h => ?_) (fun cdv A outer s H vs Q E hr h => ?_)
  · obtain ⟨sa, _, _, m, rfl, _⟩ := h
    rfl
  have hu := hu_of hr
  refine ⟨_, (pss_cons (ps_if (pt_cmpR op_ge (pe_ix ix_list (pv 0) pe_int (fun _ _ => rfl)) (pe_op op_pow pe_int pe_int) (nomark _)) (pss_cons (ps_set (i := 2) sc_ldraw.nd rfl (Or.inl rfl) (pe_op op_mod (pe_callTy call_int1 (by rfl) T.f_int (by decide +kernel) (pa_cons (pe_ix ix_list (pv 0) pe_int (fun _ _ => rfl)) pa_nil)) (pv 1)))
    (pss_cons (ps_asg (pe_op op_fdivW (pe_callTy call_int1 (by rfl) T.f_int (by decide +kernel) (pa_cons (pe_ix ix_list (pv 0) pe_int (fun _ _ => rfl)) pa_nil)) (pv 1)) (pg_sub (pv 0) pe_int set_list))
    (pss_one (ps_ret (pv 2))))) pss_nil)
    (pss_cons (ps_set (i := 3) sc_ldraw.nd rfl (Or.inl rfl) (pe_op op_mod (pe_op op_add (pe_op op_add (pe_op op_mul (pe_op op_mod (pe_callTy call_int1 (by rfl) T.f_int (by decide +kernel) (pa_cons (pe_ix ix_list (pv 0) pe_int (fun _ _ => rfl)) pa_nil)) pe_int) pe_int) (pe_op op_mul (pe_ix ix_list (pv 0) pe_int (fun _ _ => rfl)) pe_int)) pe_int) pe_int))
    (pss_cons (ps_set (i := 3) sc_ldraw.nd rfl (Or.inl rfl) (pe_op op_mod (pe_op op_mul (pv 3) (pe_op op_add (pe_op op_fdivW (pv 3) pe_int) pe_int)) pe_int))
    (pss_cons (ps_set (i := 3) sc_ldraw.nd rfl (Or.inl rfl) (pe_op op_mod (pe_op op_mul (pv 3) (pe_op op_add (pe_op op_fdivW (pv 3) pe_int) pe_int)) pe_int))
    (pss_cons (ps_asg (pe_op op_add (pe_ix ix_list (pv 0) pe_int (fun _ _ => rfl)) pe_int) (pg_sub (pv 0) pe_int set_list))
    (pss_one (ps_ret (pe_op op_mod (pe_op op_fdivW (pv 3) pe_int) (pv 1))))))))), ?_⟩
  obtain ⟨sa, c, d, m, rfl, hs, hm0, hm, k⟩ := h
  refine ⟨_, rfl, _, _, _, _, rfl, rfl, SqL.of hs, rfl, _, _, rfl, rfl, ⟨by decide, by decide, by decide⟩, _, _, rfl, rfl, _, rfl, ?_⟩
  refine ite2 (fun c1 => ?_) (fun c1 => ?_)
  · refine ⟨_, rfl, _, _, _, _, rfl, rfl, SqL.of hs, rfl, .inl ⟨_, rfl, _, rfl, _, _, rfl, rfl, hm0, ?_⟩⟩
    refine ⟨_, rfl, _, _, _, _, rfl, rfl, SqL.of hs, rfl, .inl ⟨_, rfl, _, rfl, _, _, rfl, rfl, dv_ok hm0 hm, ?_⟩⟩
    refine ⟨_, rfl, _, _, _, 0, rfl, rfl, hs, rfl, ?_⟩
    exact ⟨_, rfl, k (c / m) d (c % m) (Int.emod_nonneg _ (by omega)) (Int.emod_lt_of_pos _ hm0)⟩
  · -- mixed
    refine ⟨_, rfl, _, _, _, _, rfl, rfl, SqL.of hs, rfl, .inl ⟨_, rfl, _, _, rfl, rfl, (show (0 : Int) < 2147483647 by decide), _, _, rfl, rfl, .inr ⟨by decide, by decide⟩, ?_⟩⟩
    refine ⟨_, rfl, _, _, _, _, rfl, rfl, SqL.of hs, rfl, _, _, rfl, rfl, .inr ⟨by decide, by decide⟩, _, _, rfl, rfl, _, _, rfl, rfl, _, _, rfl, rfl, (show (0 : Int) < 2147483647 by decide), ?_⟩
    have b1 : 0 ≤ (c % 2147483647 * 48271 + d * 69621 + 11) % 2147483647 := Int.emod_nonneg _ (by decide)
    have b2 : (c % 2147483647 * 48271 + d * 69621 + 11) % 2147483647 < 2147483647 := Int.emod_lt_of_pos _ (by decide)
    generalize (c % 2147483647 * 48271 + d * 69621 + 11) % 2147483647 = m1 at b1 b2 ⊢
    refine ⟨_, rfl, _, rfl, _, _, rfl, rfl, dv_ok (by decide) (by decide), _, _, rfl, rfl, _, _, rfl, rfl, .inl ⟨by omega, by omega⟩, _, _, rfl, rfl, (show (0 : Int) < 2147483647 by decide), ?_⟩
    have b3 : 0 ≤ (m1 * (m1 / 1009 + 69621)) % 2147483647 := Int.emod_nonneg _ (by decide)
    have b4 : (m1 * (m1 / 1009 + 69621)) % 2147483647 < 2147483647 := Int.emod_lt_of_pos _ (by decide)
    generalize (m1 * (m1 / 1009 + 69621)) % 2147483647 = m2 at b3 b4 ⊢
    refine ⟨_, rfl, _, rfl, _, _, rfl, rfl, dv_ok (by decide) (by decide), _, _, rfl, rfl, _, _, rfl, rfl, .inl ⟨by omega, by omega⟩, _, _, rfl, rfl, (show (0 : Int) < 2147483399 by decide), ?_⟩
    generalize (m2 * (m2 / 2003 + 40692)) % 2147483399 = m3
    refine ⟨_, rfl, _, _, _, _, rfl, rfl, SqL.of hs, rfl, _, _, rfl, rfl, ?_⟩
    refine ⟨_, rfl, _, _, _, 1, rfl, rfl, hs, rfl, ?_⟩
    refine ⟨_, rfl, _, _, rfl, rfl, dv_ok (by decide) (by decide), _, rfl, _, _, rfl, rfl, hm0, ?_⟩
    exact k c (d + 1) _ (Int.emod_nonneg _ (by omega)) (Int.emod_lt_of_pos _ hm0)
end HW

set_option Elab.async false
set_option linter.all false
set_option maxRecDepth 100000
set_option maxHeartbeats 4000000
set_option pp.maxSteps 400
set_option pp.fieldNotation false
namespace HW
open PySem PySem.Spec PyProof.Rows L2 He
open C8 (Cal Met Mak pe_c pe_mk pe_mt pe_mt0 pe_gc InsC call_isC)
open HP
theorem inV_mem {b : Str} {l : List Str} (h : b ∈ l) : inV (.str b) (l.map vS) = true := by
  unfold inV
  rw [List.any_eq_true]
  exact ⟨vS b, List.mem_map.mpr ⟨b, h, rfl⟩, beq_self_eq_true b⟩
theorem nodup_sub_length {α : Type} [DecidableEq α] : ∀ {l m : List α}, l.Nodup → (∀ a ∈ l, a ∈ m) → l.length ≤ m.length
  | [], _, _, _ => Nat.zero_le _
  | a :: l, m, hn, hs => by
    obtain ⟨h1, h2⟩ := List.nodup_cons.mp hn
    have ha := hs a (List.mem_cons_self ..)
    have ih := nodup_sub_length (m := m.erase a) h2 fun b hb => (List.mem_erase_of_ne (fun (e : b = a) => h1 (e ▸ hb))).mpr (hs b (List.mem_cons_of_mem _ hb))
    rw [List.length_erase_of_mem ha] at ih
    have := List.length_pos_of_mem ha
    rw [List.length_cons]
    omega
abbrev lettersS : Str := "abcdefghijklmnopqrstuvwxyz"
theorem letters_at {r : Int} (h0 : 0 ≤ r) (h : r < 26) : atI lettersS.cps.toList r = some (97 + r.toNat) := by
  have hk : ∀ k : Fin 26, lettersS.cps.toList[k.val]? = some (97 + k.val) := by decide +kernel
  have := hk ⟨r.toNat, by omega⟩
  rw [show r = ((r.toNat : Nat) : Int) by omega]
  exact atI_nat this
def NameL (z : Str) (n : Nat) : Prop := z.length = n ∧ ∀ c ∈ z.cps.toList, 97 ≤ c ∧ c ≤ 122
theorem NameL.snoc {z : Str} {n c : Nat} (h : NameL z n) (h1 : 97 ≤ c) (h2 : c ≤ 122) : NameL (z ++ ⟨#[c]⟩) (n + 1) := by
  have e : (z ++ (⟨#[c]⟩ : Str)).cps = z.cps ++ #[c] := rfl
  refine ⟨?_, fun x hx => ?_⟩
  · show (z ++ (⟨#[c]⟩ : Str)).cps.size = n + 1
    rw [e, Array.size_append]
    have : z.cps.size = n := h.1
    rw [this]
    rfl
  · rw [e, Array.toList_append, List.mem_append] at hx
    rcases hx with q | q
    · exact h.2 x q
    · have : x = c := by simpa using q
      subst this
      exact ⟨h1, h2⟩
theorem NameL.one {c : Nat} (h1 : 97 ≤ c) (h2 : c ≤ 122) : NameL ⟨#[c]⟩ 1 := ⟨rfl, fun x hx => by
  have : x = c := by simpa using hx
  subst this
  exact ⟨h1, h2⟩⟩
theorem NameL.ok {z : Str} {n : Nat} (h : NameL z n) (h1 : 1 ≤ n) (h8 : n ≤ 8) : NameOk z := ⟨by rw [h.1]; exact h1, by rw [h.1]; exact h8, h.2⟩
def nm (i : Nat) : Str := (⟨#[97 + i / 26]⟩ : Str) ++ (⟨#[97 + i % 26]⟩ : Str)
theorem nm_nodup : ((List.range 60).map nm).Nodup := by decide +kernel
theorem nm_ok {i : Nat} (h : i < 60) : NameOk (nm i) := ((NameL.one (c := 97 + i / 26) (by omega) (by omega)).snoc (c := 97 + i % 26) (by omega) (by omega)).ok (by decide) (by decide)
theorem nm_free {taken : List Str} (hl : taken.length < 60) (h : ∀ j, j < 60 → nm j ∈ taken) : False := by
  have := nodup_sub_length nm_nodup (m := taken) fun a ha => by
    obtain ⟨j, hj, rfl⟩ := List.mem_map.mp ha
    exact h j (List.mem_range.mp hj)
  rw [List.length_map, List.length_range] at this
  omega
def spName : Sp := fun vs H Q _ => ∃ (s t : Addr) (c d : Int) (taken : List Str), vs = [.ref s, .ref t] ∧ H s = some (.lst [.int c, .int d]) ∧ H t = some (.lst (taken.map vS)) ∧ taken.length ≤ 28 ∧ s ≠ t ∧
  ∀ c' d' z, NameOk z → z ∉ taken → Q (.str z) (upd H s (.lst [.int c', .int d']))

theorem sc_lname : FnScope ["_law_stream_here", "_law_taken", "_law_letters", "_law_name_here", "_law_k"] ["_law_stream_here", "_law_taken"] (defScope s_lname) := ⟨rfl, rfl, rfl, by decide +kernel, rfl, by decide +kernel, by decide +kernel⟩

theorem ok_lname {P : Program} {w : World} {K : PySem.W.Frag} {mg : Str → Option Value} {base : Heap} (T : Txt K mg) (F_ldraw : Cal P w K mg base 1 "_law_draw" spDraw []) : Cal P w K mg base 2 "_law_name" (spName) [] := by
  refine cal_of (D := d_lname) (T.says.def_ 36 rfl) T.g__law_name (fun _ _ _ _ _ _ us hl => match us, hl with | [_, _], _ => rfl) sc_lname (fun vs H Q E h => ?_) (fun cdv A outer s H vs Q E hr h => ?_)
  · obtain ⟨sa, ta, _, _, _, rfl, _⟩ := h
    rfl
  have hu := hu_of hr
  refine ⟨_, (pss_cons (ps_set (i := 2) sc_lname.nd rfl (Or.inl rfl) pe_str)
    (pss_cons (ps_set (i := 3) sc_lname.nd rfl (Or.inl rfl) pe_str)
    (C8.pss_cut (ps_for PassesOwn.never rfl (pi_range1 (by rfl) T.f_range (pa_cons (pe_op op_add pe_int (pe_c F_ldraw hr (by decide) rfl (pa_cons (pv 0) (pa_cons pe_int pa_nil)))) pa_nil)) (pg_name (i := 4) sc_lname.nd rfl (Or.inl rfl)) (pss_one (ps_set (i := 3) sc_lname.nd rfl (Or.inl rfl) (pe_op op_add_str (pv 3) (pe_ix ix_str (pv 2) (pe_c F_ldraw hr (by decide) rfl (pa_cons (pv 0) (pa_cons pe_int pa_nil))) (fun _ _ => rfl))))))
    (pss_cons (ps_if (pt_cmpR op_notIn_seq (pv 3) (pv 1) rfl) (pss_one (ps_ret (pv 3))) pss_nil)
    (C8.pss_cut (ps_for PassesOwn.never rfl (pi_range1 (by rfl) T.f_range (pa_cons pe_int pa_nil)) (pg_name (i := 4) sc_lname.nd rfl (Or.inl rfl)) (pss_cons (ps_set (i := 3) sc_lname.nd rfl (Or.inl rfl) (pe_op op_add_str (pe_ix ix_str (pv 2) (pe_op op_fdivW (pv 4) pe_int) (fun _ _ => rfl)) (pe_ix ix_str (pv 2) (pe_op op_mod (pv 4) pe_int) (fun _ _ => rfl))))
    (pss_one (ps_if (pt_cmpR op_notIn_seq (pv 3) (pv 1) rfl) (pss_one ps_break) pss_nil))))
    (pss_one (ps_ret (pv 3)))))))), ?_⟩
  obtain ⟨sa, ta, c, d, taken, rfl, hs, ht, h28, hst, k⟩ := h
  have hts : ta ≠ sa := Ne.symm hst
  -- for _law_k in range(1 + _law_draw(_law_stream_here, 8))
  refine ⟨fun σ H' => ∃ c d z ko, σ = [some (.ref sa), some (.ref ta), some (.str lettersS), some (.str z), ko] ∧ H' = upd H sa (.lst [.int c, .int d]) ∧ NameOk z, ?_, ?_⟩
  · refine ⟨_, rfl, sa, c, d, 8, rfl, hs, by decide, by decide, fun c' d' r h0 h1 => ⟨_, _, rfl, rfl, _, rfl, by omega, by omega, ?_⟩⟩
    refine for_range (lo := 0) (fun i σ H' => ∃ c d z ko, σ = [some (.ref sa), some (.ref ta), some (.str lettersS), some (.str z), ko] ∧ H' = upd H sa (.lst [.int c, .int d]) ∧ NameL z i)
      ⟨c', d', _, none, rfl, rfl, rfl, fun x hx => by cases hx⟩ ?_ ?_
    · rintro i σ H' hi ⟨c1, d1, z, ko, rfl, rfl, hz⟩
      refine ⟨_, rfl, _, rfl, _, rfl, sa, c1, d1, 26, rfl, upd_same, by decide, by decide, fun c2 d2 r2 g0 g1 => ?_⟩
      rw [upd_upd]
      refine ⟨_, _, _, rfl, rfl, by show (26 : Nat) ≤ sizeLine; exact small_le (by decide), letters_at g0 g1, _, _, rfl, rfl, ?_, ?_⟩
      · have : z.length = i := hz.1
        rw [this]
        show i + 1 ≤ sizeLine
        exact small_le (by omega)
      · exact ⟨c2, d2, _, _, rfl, rfl, hz.snoc (by omega) (by omega)⟩
    · rintro σ H' ⟨c1, d1, z, ko, rfl, rfl, hz⟩
      exact ⟨c1, d1, z, ko, rfl, rfl, hz.ok (by omega) (by omega)⟩
  rintro σ H' ⟨c1, d1, z, ko, rfl, rfl, hz⟩
  have ht1 : upd H sa (.lst [.int c1, .int d1]) ta = some (.lst (taken.map vS)) := by rw [upd_ne hts]; exact ht
  -- if name not in taken
  refine ⟨_, rfl, _, rfl, ta, _, rfl, .inl (SqL.of ht1), rfl, all_flat, ?_⟩
  by_cases hm : z ∈ taken
  · refine ⟨false, by rw [inV_mem hm]; rfl, iteF ?_⟩
    refine ⟨fun σ H' => ∃ c d z ko, σ = [some (.ref sa), some (.ref ta), some (.str lettersS), some (.str z), ko] ∧ H' = upd H sa (.lst [.int c, .int d]) ∧ NameOk z ∧ z ∉ taken, ?_, ?_⟩
    · refine ⟨_, rfl, by decide, by decide, ?_⟩
      refine for_range (lo := 0) (fun i σ H' => ∃ c d z ko, σ = [some (.ref sa), some (.ref ta), some (.str lettersS), some (.str z), ko] ∧ H' = upd H sa (.lst [.int c, .int d]) ∧ ∀ j, j < i → nm j ∈ taken)
        ⟨c1, d1, z, ko, rfl, rfl, fun j hj => by omega⟩ ?_ ?_
      · rintro i σ H' hi ⟨c2, d2, z2, ko2, rfl, rfl, hall⟩
        have hi : i < 60 := hi
        have ht2 : upd H sa (.lst [.int c2, .int d2]) ta = some (.lst (taken.map vS)) := by rw [upd_ne hts]; exact ht
        have q1 : (0 : Int) ≤ (0 + (i : Int)) / 26 := by omega
        have q2 : (0 + (i : Int)) / 26 < 26 := by omega
        have q3 : (0 : Int) ≤ (0 + (i : Int)) % 26 := by omega
        have q4 : (0 + (i : Int)) % 26 < 26 := by omega
        refine ⟨_, rfl, _, rfl, _, _, rfl, rfl, dv_ok (by decide) (by decide), _, _, _, rfl, rfl, small_le (show (26 : Nat) ≤ 100000 by decide), letters_at q1 q2, _, rfl, _, rfl, _, _, rfl, rfl, (show (0 : Int) < 26 by decide), _, _, _, rfl, rfl, small_le (show (26 : Nat) ≤ 100000 by decide), letters_at q3 q4, _, _, rfl, rfl, small_le (show 1 + 1 ≤ 100000 by decide), ?_⟩
        have en : (⟨#[97 + ((0 + (i : Int)) / 26).toNat]⟩ : Str) ++ (⟨#[97 + ((0 + (i : Int)) % 26).toNat]⟩ : Str) = nm i := by
          unfold nm
          rw [show ((0 + (i : Int)) / 26).toNat = i / 26 by omega, show ((0 + (i : Int)) % 26).toNat = i % 26 by omega]
        rw [en]
        refine ⟨_, rfl, _, rfl, ta, _, rfl, .inl (SqL.of ht2), rfl, all_flat, ?_⟩
        by_cases hm2 : nm i ∈ taken
        · refine ⟨false, by rw [inV_mem hm2]; rfl, iteF ?_⟩
          refine ⟨c2, d2, _, _, rfl, rfl, fun j hj => ?_⟩
          by_cases e : j = i
          · rw [e]; exact hm2
          · exact hall j (by omega)
        · refine ⟨true, by rw [inV_str hm2]; rfl, iteT ?_⟩
          exact ⟨c2, d2, _, _, rfl, rfl, nm_ok hi, hm2⟩
      · rintro σ H' ⟨c2, d2, z2, ko2, rfl, rfl, hall⟩
        exact (nm_free (by omega) fun j hj => hall j hj).elim
    rintro σ H' ⟨c2, d2, z2, ko2, rfl, rfl, hz2, hn2⟩
    exact ⟨_, rfl, k c2 d2 z2 hz2 hn2⟩
  · refine ⟨true, by rw [inV_str hm]; rfl, iteT ?_⟩
    exact ⟨_, rfl, k c1 d1 z hz hm⟩
end HW

set_option Elab.async false
set_option linter.all false
set_option maxRecDepth 100000
set_option maxHeartbeats 4000000
set_option pp.maxSteps 400
set_option pp.fieldNotation false
namespace HW
open PySem PySem.Spec PyProof.Rows L2 He
open C8 (Cal Met Mak pe_c pe_mk pe_mt pe_mt0 pe_gc InsC call_isC)
open HP
/-- a stream that may change at s; all that H0 knows stands -/
def StrAt (H0 H : Hp) (s : Addr) : Prop := Same H0 H ∧ H0 s = none ∧ ∃ c d : Int, H s = some (.lst [.int c, .int d])
theorem StrAt.grow {H0 H H' : Hp} {s : Addr} (h : StrAt H0 H s) (k : Same H H') : StrAt H0 H' s := by
  obtain ⟨h1, h2, c, d, h3⟩ := h
  exact ⟨h1.trans k, h2, c, d, k _ _ h3⟩
theorem StrAt.put {H0 H : Hp} {s : Addr} (h : StrAt H0 H s) (c d : Int) : StrAt H0 (upd H s (.lst [.int c, .int d])) s := ⟨h.1.mut h.2.1, h.2.1, c, d, upd_same⟩
def spPlacesL : Sp := fun vs H Q _ => ∃ (H0 : Hp) (s : Addr) (m : Nat), vs = [.ref s, .int (m : Int)] ∧ StrAt H0 H s ∧ m ≤ 28 ∧
  ∀ (H' : Hp) (q : Addr) (names : List Str), Same H0 H' → H' q = some (.lst (names.map vS)) → names.length = m → names.Nodup → (∀ a ∈ names, NameOk a) → Q (.ref q) H'

theorem sc_lplaces : FnScope ["_law_stream_here", "_law_many", "_law_places_here", "_law_k"] ["_law_stream_here", "_law_many"] (defScope s_lplaces) := ⟨rfl, rfl, rfl, by decide +kernel, rfl, by decide +kernel, by decide +kernel⟩

theorem ok_lplaces {P : Program} {w : World} {K : PySem.W.Frag} {mg : Str → Option Value} {base : Heap} (T : Txt K mg) (F_lname : Cal P w K mg base 2 "_law_name" spName []) : Cal P w K mg base 3 "_law_places" (spPlacesL) [] := by
  refine cal_of (D := d_lplaces) (T.says.def_ 37 rfl) T.g__law_places (fun _ _ _ _ _ _ us hl => match us, hl with | [_, _], _ => rfl) sc_lplaces (fun vs H Q E h => ?_) (fun cdv A outer s H vs Q E hr h => ?_)
  · obtain ⟨_, sa, m, rfl, _⟩ := h
    rfl
  have hu := hu_of hr
  refine ⟨_, (pss_cons (ps_set (i := 2) sc_lplaces.nd rfl (Or.inl rfl) (pe_lst pa_nil))
    (C8.pss_cut (ps_for PassesOwn.never rfl (pi_range1 (by rfl) T.f_range (pa_cons (pv 1) pa_nil)) (pg_name (i := 3) sc_lplaces.nd rfl (Or.inl rfl)) (pss_one (ps_expr (pe_bm PySem.F.plainAttrs_list PySem.F.slot_list_append PySem.F.type_list_append mt_append (pv 2) (pa_cons (pe_c F_lname hr (by decide) rfl (pa_cons (pv 0) (pa_cons (pv 2) pa_nil))) pa_nil)))))
    (pss_one (ps_ret (pv 2))))), ?_⟩
  obtain ⟨H0, sa, m, rfl, S, hm, k⟩ := h
  refine ⟨by show 0 ≤ sizeLine; decide, fun q hq => ?_⟩
  have hq0 : H0 q = none := S.1.free hq
  have hsq : sa ≠ q := by
    obtain ⟨_, _, c, d, h⟩ := S
    exact ne_of_none h hq
  have S1 := S.grow (Same.new (o := .lst []) hq)
  have hq1 : upd H q (.lst []) q = some (.lst (([] : List Str).map vS)) := upd_same
  generalize upd H q (.lst []) = H1 at S1 hq1 ⊢
  refine ⟨fun σ H' => ∃ ko, ∃ names : List Str, σ = [some (.ref sa), some (.int (m : Int)), some (.ref q), ko] ∧ Same H0 H' ∧ H' q = some (.lst (names.map vS)) ∧ names.length = m ∧ names.Nodup ∧ ∀ a ∈ names, NameOk a, ?_, ?_⟩
  · refine ⟨_, rfl, _, rfl, by omega, by omega, ?_⟩
    refine for_range (lo := 0) (fun i σ H' => ∃ ko, ∃ names : List Str, σ = [some (.ref sa), some (.int (m : Int)), some (.ref q), ko] ∧ StrAt H0 H' sa ∧ H' q = some (.lst (names.map vS)) ∧ names.length = i ∧ names.Nodup ∧ ∀ a ∈ names, NameOk a)
      ⟨none, [], rfl, S1, hq1, rfl, List.nodup_nil, fun a h => by cases h⟩ ?_ ?_
    · rintro i σ H2 hi ⟨ko, names, rfl, S2, hq2, hl, hn, hok⟩
      obtain ⟨c, d, hs2⟩ := S2.2.2
      refine ⟨_, rfl, .inl ⟨rfl, _, SqL.of hq2⟩, _, rfl, _, rfl, sa, q, c, d, names, rfl, hs2, hq2, by omega, hsq, fun c' d' z hz hnz => ?_⟩
      have S3 := S2.put c' d'
      have hq3 : upd H2 sa (.lst [.int c', .int d']) q = some (.lst (names.map vS)) := by rw [upd_ne (Ne.symm hsq)]; exact hq2
      generalize upd H2 sa (.lst [.int c', .int d']) = H3 at S3 hq3 ⊢
      refine ⟨_, _, _, rfl, rfl, hq3, by rw [List.length_map]; exact small_lt (by omega), ?_⟩
      obtain ⟨s1, s2, c3, d3, s3⟩ := S3
      refine ⟨_, names ++ [z], rfl, ⟨s1.mut hq0, s2, c3, d3, by rw [upd_ne hsq]; exact s3⟩, by rw [upd_same, List.map_append]; rfl, by rw [List.length_append, hl]; rfl, ?_, fun a ha => ?_⟩
      · rw [List.nodup_append]
        exact ⟨hn, List.nodup_cons.mpr ⟨by simp, List.nodup_nil⟩, fun x hx y hy e => hnz (by rw [List.mem_singleton.mp hy] at e; exact e ▸ hx)⟩
      · rcases List.mem_append.mp ha with y | y
        · exact hok a y
        · rw [List.mem_singleton.mp y]; exact hz
    · rintro σ H2 ⟨ko, names, rfl, S2, hq2, hl, hn, hok⟩
      exact ⟨ko, names, rfl, S2.1, hq2, by omega, hn, hok⟩
  rintro σ H2 ⟨ko, names, rfl, s2, hq2, hl, hn, hok⟩
  exact ⟨_, rfl, k H2 q names s2 hq2 hl hn hok⟩
theorem price_put {H : Hp} {p : Addr} {pr : Str → Int} {l : List Str} {a : Str} {v : Int} (hp : H p = some (.dK (dS (prV pr) l))) (h : a ∉ l) (hl : l.length < 1000) :
    DPut H p (.str a) (.int v) (upd H p (.dK (dS (prV fun b => if b = a then v else pr b) (l ++ [a])))) := by
  have e1 : dS (prV pr) l = dS (prV fun b => if b = a then v else pr b) l := dS_congr fun b hb => by
    have hne : b ≠ a := fun z => h (z ▸ hb)
    show V.int (pr b) = V.int (if b = a then v else pr b)
    rw [if_neg hne]
  have e2 : V.int v = prV (fun b => if b = a then v else pr b) a := by
    show V.int v = V.int (if a = a then v else pr a)
    rw [if_pos rfl]
  rw [e2]
  rw [e1] at hp
  exact dput_new hp h hl
def spPricesL : Sp := fun vs H Q _ => ∃ (H0 : Hp) (s q : Addr) (kind : Int) (names : List Str), vs = [.ref s, .ref q, .int kind] ∧ StrAt H0 H s ∧ H0 q = some (.lst (names.map vS)) ∧ names.length ≤ 28 ∧ names.Nodup ∧
  ∀ H' p pr, Same H0 H' → H' p = some (.dK (dS (prV pr) names)) → (∀ a ∈ names, 1 ≤ pr a ∧ pr a ≤ maxPrice) → Q (.ref p) H'
/-- the dict after the next price -/
theorem prices_next {H0 H2 H3 : Hp} {sa p : Addr} {pr : Str → Int} {names : List Str} {i : Nat} {a : Str} {v : Int} (S3 : StrAt H0 H3 sa) (hp0 : H0 p = none) (hsp : sa ≠ p) (hn : names.Nodup) (ha : names[i]? = some a) (hb : ∀ b ∈ names.take i, 1 ≤ pr b ∧ pr b ≤ maxPrice) (h1 : 1 ≤ v) (h2 : v ≤ maxPrice)
    (e : H2 = upd H3 p (.dK (dS (prV fun b => if b = a then v else pr b) (names.take i ++ [a])))) :
    StrAt H0 H2 sa ∧ H2 p = some (.dK (dS (prV fun b => if b = a then v else pr b) (names.take (i + 1)))) ∧ ∀ b ∈ names.take (i + 1), 1 ≤ (if b = a then v else pr b) ∧ (if b = a then v else pr b) ≤ maxPrice := by
  subst e
  obtain ⟨s1, s2, c, d, s3⟩ := S3
  refine ⟨⟨s1.mut hp0, s2, c, d, by rw [upd_ne hsp]; exact s3⟩, by rw [upd_same, take_succ_get ha], fun b hb2 => ?_⟩
  by_cases c : b = a
  · rw [if_pos c]; exact ⟨h1, h2⟩
  · rw [if_neg c]
    rw [take_succ_get ha] at hb2
    rcases List.mem_append.mp hb2 with y | y
    · exact hb b y
    · exact absurd (List.mem_singleton.mp y) c
theorem pow30 : (10 : Int) ^ (30 : Int).toNat = maxPrice := by decide +kernel

theorem sc_lprices : FnScope ["_law_stream_here", "_law_places_here", "_law_kind", "_law_prices_here", "_law_place"] ["_law_stream_here", "_law_places_here", "_law_kind"] (defScope s_lprices) := ⟨rfl, rfl, rfl, by decide +kernel, rfl, by decide +kernel, by decide +kernel⟩

theorem ok_lprices {P : Program} {w : World} {K : PySem.W.Frag} {mg : Str → Option Value} {base : Heap} (T : Txt K mg) (F_ldraw : Cal P w K mg base 1 "_law_draw" spDraw []) : Cal P w K mg base 2 "_law_prices" (spPricesL) [] := by
  refine cal_of (D := d_lprices) (T.says.def_ 38 rfl) T.g__law_prices (fun _ _ _ _ _ _ us hl => match us, hl with | [_, _, _], _ => rfl) sc_lprices (fun vs H Q E h => ?_) (fun cdv A outer s H vs Q E hr h => ?_)
  · obtain ⟨_, sa, q, kd, _, rfl, _⟩ := h
    rfl
  have hu := hu_of hr
  refine ⟨_, (pss_cons (ps_set (i := 3) sc_lprices.nd rfl (Or.inl rfl) pe_dnewK)
    (C8.pss_cut (ps_for PassesOwn.never rfl (pi_list (pv 1)) (pg_name (i := 4) sc_lprices.nd rfl (Or.inl rfl)) (pss_one (ps_if (pt_cmpR op_eq (pv 2) pe_int (nomark _)) (pss_one (ps_dput hu (pv 3) (pv 4) (pe_op op_add pe_int (pe_c F_ldraw hr (by decide) rfl (pa_cons (pv 0) (pa_cons pe_int pa_nil)))) rfl)) (pss_one (ps_if (pt_cmpR op_eq (pv 2) pe_int (nomark _)) (pss_one (ps_dput hu (pv 3) (pv 4) (pe_op op_add pe_int (pe_c F_ldraw hr (by decide) rfl (pa_cons (pv 0) (pa_cons pe_int pa_nil)))) rfl)) (pss_one (ps_if (pt_cmpR op_eq (pv 2) pe_int (nomark _)) (pss_one (ps_dput hu (pv 3) (pv 4) (pe_op op_add pe_int (pe_c F_ldraw hr (by decide) rfl (pa_cons (pv 0) (pa_cons (pe_op op_pow pe_int pe_int) pa_nil)))) rfl)) (pss_one (ps_dput hu (pv 3) (pv 4) (pe_op op_sub (pe_op op_pow pe_int pe_int) (pe_c F_ldraw hr (by decide) rfl (pa_cons (pv 0) (pa_cons pe_int pa_nil)))) rfl)))))))))
    (pss_one (ps_ret (pv 3))))), ?_⟩
  obtain ⟨H0, sa, q, kd, names, rfl, S, hq, h28, hn, k⟩ := h
  intro p hp
  have hp0 : H0 p = none := S.1.free hp
  have hsp : sa ≠ p := by
    obtain ⟨_, _, c, d, h⟩ := S
    exact ne_of_none h hp
  have S1 := S.grow (Same.new (o := .dK []) hp)
  have hp1 : upd H p (.dK []) p = some (.dK (dS (prV fun _ => 1) (names.take 0))) := upd_same
  generalize upd H p (.dK []) = H1 at S1 hp1 ⊢
  refine ⟨fun σ H' => ∃ po pr, σ = [some (.ref sa), some (.ref q), some (.int kd), some (.ref p), po] ∧ Same H0 H' ∧ H' p = some (.dK (dS (prV pr) names)) ∧ ∀ a ∈ names, 1 ≤ pr a ∧ pr a ≤ maxPrice, ?_, ?_⟩
  · refine ⟨_, rfl, q, rfl, ⟨_, SqL.of (S1.1 _ _ hq)⟩, ?_⟩
    refine for_list (K := K) (a := q) (xs := names.map vS) (fun i σ H' => ∃ po pr, σ = [some (.ref sa), some (.ref q), some (.int kd), some (.ref p), po] ∧ StrAt H0 H' sa ∧ H' p = some (.dK (dS (prV pr) (names.take i))) ∧ ∀ a ∈ names.take i, 1 ≤ pr a ∧ pr a ≤ maxPrice)
      ⟨none, fun _ => 1, rfl, S1, hp1, fun a h => by simp at h⟩ (fun i σ H' _ ⟨_, _, _, S', _⟩ => SqL.of (S'.1 _ _ hq)) ?_ ?_
    · rintro i x σ H2 hx ⟨po, pr, rfl, S2, hp2, hb2⟩
      obtain ⟨a, ha, rfl⟩ := str_get hx
      obtain ⟨c, d, hs2⟩ := S2.2.2
      have hnot := nodup_take_get hn ha
      have hl : (names.take i).length < 1000 := by rw [List.length_take]; omega
      have hp3 : ∀ c' d' : Int, upd H2 sa (.lst [.int c', .int d']) p = some (.dK (dS (prV pr) (names.take i))) := fun c' d' => by rw [upd_ne (Ne.symm hsp)]; exact hp2
      refine ⟨_, rfl, rfl, _, rfl, ?_⟩
      refine ite2 (fun _ => ?_) (fun _ => ?_)
      · refine ⟨_, rfl, sa, c, d, 3, rfl, hs2, by decide, by decide, fun c' d' r h0 h1 => ?_⟩
        refine ⟨_, _, rfl, rfl, _, rfl, _, rfl, p, _, rfl, price_put (hp3 c' d') hnot hl, ?_⟩
        exact ⟨_, _, rfl, prices_next (S2.put c' d') hp0 hsp hn ha hb2 (by omega) (by show 1 + r ≤ 1000000000000000000000000000000; omega) rfl⟩
      refine ⟨_, rfl, rfl, _, rfl, ?_⟩
      refine ite2 (fun _ => ?_) (fun _ => ?_)
      · refine ⟨_, rfl, sa, c, d, 9, rfl, hs2, by decide, by decide, fun c' d' r h0 h1 => ?_⟩
        refine ⟨_, _, rfl, rfl, _, rfl, _, rfl, p, _, rfl, price_put (hp3 c' d') hnot hl, ?_⟩
        exact ⟨_, _, rfl, prices_next (S2.put c' d') hp0 hsp hn ha hb2 (by omega) (by show 1 + r ≤ 1000000000000000000000000000000; omega) rfl⟩
      refine ⟨_, rfl, rfl, _, rfl, ?_⟩
      refine ite2 (fun _ => ?_) (fun _ => ?_)
      · refine ⟨_, rfl, _, _, rfl, rfl, ⟨by decide, by decide, by decide⟩, ?_⟩
        refine ⟨sa, c, d, maxPrice, (show [V.ref sa, V.int ((10 : Int) ^ (30 : Int).toNat)] = [V.ref sa, V.int maxPrice] by rw [pow30]), hs2, by decide, by decide, fun c' d' r h0 h1 => ?_⟩
        have h1 : r < 1000000000000000000000000000000 := h1
        refine ⟨_, _, rfl, rfl, _, rfl, _, rfl, p, _, rfl, price_put (hp3 c' d') hnot hl, ?_⟩
        exact ⟨_, _, rfl, prices_next (S2.put c' d') hp0 hsp hn ha hb2 (by omega) (by show 1 + r ≤ 1000000000000000000000000000000; omega) rfl⟩
      · refine ⟨_, _, rfl, rfl, ⟨by decide, by decide, by decide⟩, _, rfl, sa, c, d, 3, rfl, hs2, by decide, by decide, fun c' d' r h0 h1 => ?_⟩
        refine ⟨_, _, rfl, rfl, _, rfl, _, rfl, p, _, rfl, price_put (hp3 c' d') hnot hl, ?_⟩
        rw [pow30]
        exact ⟨_, _, rfl, prices_next (S2.put c' d') hp0 hsp hn ha hb2 (by show 1 ≤ 1000000000000000000000000000000 - r; omega) (by show 1000000000000000000000000000000 - r ≤ 1000000000000000000000000000000; omega) rfl⟩
    · rintro σ H2 ⟨po, pr, rfl, S2, hp2, hb2⟩
      rw [List.length_map, List.take_length] at hp2 hb2
      exact ⟨po, pr, rfl, S2.1, hp2, hb2⟩
  rintro σ H2 ⟨po, pr, rfl, s2, hp2, hb2⟩
  exact ⟨_, rfl, k H2 p pr s2 hp2 hb2⟩
end HW

set_option Elab.async false
set_option linter.all false
set_option maxRecDepth 100000
set_option maxHeartbeats 4000000
set_option pp.maxSteps 400
set_option pp.fieldNotation false
namespace HW
open PySem PySem.Spec PyProof.Rows L2 He
open C8 (Cal Met Mak pe_c pe_mk pe_mt pe_mt0 pe_gc InsC call_isC)
open HP
theorem hu65_of {k : Nat} {A : Around} (hr : Room k A) : A.units + 65 < cLine := by
  have := hr.un
  omega
def tieD (q : Tie) : PyData := .tuple [.str q.1, .str q.2]
theorem tieD_eqv (p q : Tie) : PyData.eqv (tieD p) (tieD q) = decide (p = q) := by
  have e : PyData.eqv (tieD p) (tieD q) = ((p.1 == q.1) && ((p.2 == q.2) && true)) := by
    simp [tieD, PyData.eqv, PyData.eqvAll]
  rw [e, Bool.and_true, Bool.eq_iff_iff, Bool.and_eq_true, beq_iff_eq, beq_iff_eq, decide_eq_true_iff]
  exact ⟨fun h => Prod.ext h.1 h.2, fun h => by rw [h]; exact ⟨rfl, rfl⟩⟩
theorem name_strOk {z : Str} (h : NameOk z) : PyData.strOk z = true := by
  unfold PyData.strOk
  rw [Array.all_eq_true_iff_forall_mem]
  intro x hx
  have := h.2.2 x (Array.mem_toList_iff.mpr hx)
  exact decide_eq_true (by omega)
theorem tieD_shaped {q : Tie} (h1 : NameOk q.1) (h2 : NameOk q.2) : SeqAt.shaped (tieD q) = true := by
  have e1 := name_strOk h1
  have e2 := name_strOk h2
  simp [SeqAt.shaped, tieD, PyData.canLay0, PyData.canLayAll0, PyData.depth, PyData.depthAll, e1, e2]
theorem ties_lay : ∀ {l : List Tie}, (∀ q ∈ l, NameOk q.1 ∧ NameOk q.2) → PyData.canLayAll0 (l.map tieD) = true
  | [], _ => by simp [PyData.canLayAll0]
  | q :: r, h => by
    have e1 := name_strOk (h q (List.mem_cons_self ..)).1
    have e2 := name_strOk (h q (List.mem_cons_self ..)).2
    have ih := ties_lay fun x hx => h x (List.mem_cons_of_mem _ hx)
    simp [PyData.canLayAll0, tieD, PyData.canLay0, e1, e2] at ih ⊢
    exact ih
theorem ties_depth : ∀ {l : List Tie}, PyData.depthAll (l.map tieD) ≤ 1
  | [] => by simp [PyData.depthAll]
  | q :: r => by
    have ih := ties_depth (l := r)
    simp [PyData.depthAll, tieD, PyData.depth] at ih ⊢
    omega
theorem ties_shaped {l : List Tie} (h : ∀ q ∈ l, NameOk q.1 ∧ NameOk q.2) : SeqAt.shaped (.list (l.map tieD)) = true := by
  have h1 := ties_lay h
  have h2 := ties_depth (l := l)
  unfold SeqAt.shaped
  rw [Bool.and_eq_true]
  refine ⟨?_, decide_eq_true ?_⟩
  · simp only [PyData.canLay0]; exact h1
  · simp only [PyData.depth]; omega
theorem dp_tie {K : PySem.W.Frag} {H : Hp} {t : Addr} {q : Tie} (h : H t = some (.tup (tieV q))) : Dp K H (.ref t) (tieD q) :=
  .tup (SqT.of h) (.cons (.str _) (.cons (.str _) .nil))
theorem dp_ties {K : PySem.W.Frag} {H : Hp} : ∀ {ts : List Addr} {l : List Tie}, TupsAt tieV H ts l → DpAll K H (ts.map vR) (l.map tieD)
  | [], [], _ => .nil
  | t :: ts, q :: l, h => .cons (dp_tie (h.2 0 t q rfl rfl)) (dp_ties ⟨by have := h.1; simpa using this, fun i a x e1 e2 => h.2 (i + 1) a x (by simpa using e1) (by simpa using e2)⟩)
  | [], _ :: _, h => by have := h.1; simp at this
  | _ :: _, [], h => by have := h.1; simp at this
theorem any_tie {l : List Tie} {q : Tie} : ((l.map tieD).any fun z => PyData.eqv z (tieD q)) = decide (q ∈ l) := by
  rw [Bool.eq_iff_iff, List.any_eq_true, decide_eq_true_iff]
  constructor
  · rintro ⟨x, hx, e⟩
    obtain ⟨p, hp, rfl⟩ := List.mem_map.mp hx
    rw [tieD_eqv] at e
    exact of_decide_eq_true e ▸ hp
  · intro h
    exact ⟨_, List.mem_map.mpr ⟨q, h, rfl⟩, by rw [tieD_eqv]; exact decide_eq_true rfl⟩
def spHalf (C : Addr) : Sp := fun vs H Q _ => ∃ (H0 : Hp) (s q pd : Addr) (size : Nat) (names all : List Str) (pr : Str → Int), vs = [.ref s, .ref q, .int (size : Int), .ref pd] ∧ StrAt H0 H s ∧ H0 q = some (.lst (names.map vS)) ∧ H0 pd = some (.dK (dS (prV pr) all)) ∧
  (∀ a ∈ names, a ∈ all) ∧ names.Nodup ∧ 1 ≤ names.length ∧ names.length ≤ 14 ∧ (∀ a ∈ names, NameOk a) ∧ (∀ a ∈ all, 1 ≤ pr a ∧ pr a ≤ maxPrice) ∧ size ≤ 24 ∧
  ∀ H' w W, StrAt H0 H' s → WebAt C H' w W → WebG W → W.N.Perm names → (∀ a ∈ names, W.pr a = pr a) → Q (.ref w) H'

theorem sc_lhalfweb : FnScope ["_law_stream_here", "_law_places_here", "_law_size", "_law_prices_here", "_law_ties", "_law_k", "_law_a", "_law_b", "_law_own", "_law_place"] ["_law_stream_here", "_law_places_here", "_law_size", "_law_prices_here"] (defScope s_lhalfweb) := ⟨rfl, rfl, rfl, by decide +kernel, rfl, by decide +kernel, by decide +kernel⟩

theorem ok_lhalfweb {P : Program} {w : World} {K : PySem.W.Frag} {mg : Str → Option Value} {base : Heap} (T : Txt K mg) (K_Web : Mak P w K mg base 4 "Web" (ga K "Web") (spWeb (ga K "Web")) []) (F_ldraw : Cal P w K mg base 1 "_law_draw" spDraw []) : Cal P w K mg base 6 "_law_half_web" (spHalf (ga K "Web")) [] := by
  refine cal_of (D := d_lhalfweb) (T.says.def_ 40 rfl) T.g__law_half_web (fun _ _ _ _ _ _ us hl => match us, hl with | [_, _, _, _], _ => rfl) sc_lhalfweb (fun vs H Q E h => ?_) (fun cdv A outer s H vs Q E hr h => ?_)
  · obtain ⟨_, sa, q, pd, size, _, _, _, rfl, _⟩ := h
    rfl
  have hu := hu_of hr
  have hu65 := hu65_of hr
  refine ⟨_, (pss_cons (ps_set (i := 4) sc_lhalfweb.nd rfl (Or.inl rfl) (pe_lst pa_nil))
    (C8.pss_cut (ps_for PassesOwn.never rfl (pi_range1 (by rfl) T.f_range (pa_cons (pv 2) pa_nil)) (pg_name (i := 5) sc_lhalfweb.nd rfl (Or.inl rfl)) (pss_cons (ps_set (i := 6) sc_lhalfweb.nd rfl (Or.inl rfl) (pe_ix ix_list (pv 1) (pe_c F_ldraw hr (by decide) rfl (pa_cons (pv 0) (pa_cons (pe_callB call_len_seq (by rfl) T.f_len (by decide +kernel) (pa_cons (pv 1) pa_nil)) pa_nil))) (fun _ _ => rfl)))
    (pss_cons (ps_set (i := 7) sc_lhalfweb.nd rfl (Or.inl rfl) (pe_ix ix_list (pv 1) (pe_c F_ldraw hr (by decide) rfl (pa_cons (pv 0) (pa_cons (pe_callB call_len_seq (by rfl) T.f_len (by decide +kernel) (pa_cons (pv 1) pa_nil)) pa_nil))) (fun _ _ => rfl)))
    (pss_one (ps_if (PW.pt (pw_and (pt_cmpR op_ne (pv 6) (pv 7) (nomark _)) (pw_and (pt_cmpR (op_notInD hu65) (pe_tup (pa_cons (pv 6) (pa_cons (pv 7) pa_nil))) (pv 4) rfl) (pw_and1 (pt_cmpR (op_notInD hu65) (pe_tup (pa_cons (pv 7) (pa_cons (pv 6) pa_nil))) (pv 4) rfl))))) (pss_one (ps_expr (pe_bm PySem.F.plainAttrs_list PySem.F.slot_list_append PySem.F.type_list_append mt_append (pv 4) (pa_cons (pe_tup (pa_cons (pv 6) (pa_cons (pv 7) pa_nil))) pa_nil)))) pss_nil)))))
    (pss_cons (ps_set (i := 8) sc_lhalfweb.nd rfl (Or.inl rfl) pe_dnewK)
    (C8.pss_cut (ps_for PassesOwn.never rfl (pi_list (pv 1)) (pg_name (i := 9) sc_lhalfweb.nd rfl (Or.inl rfl)) (pss_one (ps_dput hu (pv 8) (pv 9) (pe_dget hu (pv 3) (pv 9) (fun _ _ => rfl)) rfl)))
    (pss_one (ps_ret (pe_mk K_Web hr (by decide) rfl (pa_cons (pe_callTy call_tuple_of (by rfl) T.f_tuple (by decide +kernel) (pa_cons (pv 1) pa_nil)) (pa_cons (pv 4) (pa_cons (pv 8) pa_nil)))))))))), ?_⟩
  obtain ⟨H0, sa, q, pd, size, names, all, pr, rfl, S, hq, hpd, hsub, hn, h1, h14, hok, hpr, hsz, k⟩ := h
  have hlN : (names.map vS).length = names.length := List.length_map _
  -- ties = []
  refine ⟨by show 0 ≤ sizeLine; decide, fun tq htq => ?_⟩
  have ht0 : H0 tq = none := S.1.free htq
  have hst : sa ≠ tq := by
    obtain ⟨_, _, c, d, h⟩ := S
    exact ne_of_none h htq
  have S1 := S.grow (Same.new (o := .lst []) htq)
  have ht1 : upd H tq (.lst []) tq = some (.lst (([] : List Addr).map vR)) := upd_same
  generalize upd H tq (.lst []) = H1 at S1 ht1 ⊢
  refine ⟨fun σ H' => ∃ ko ao bo, ∃ (ts : List Addr) (ties : List Tie), σ = [some (.ref sa), some (.ref q), some (.int (size : Int)), some (.ref pd), some (.ref tq), ko, ao, bo, none, none] ∧ StrAt H0 H' sa ∧ H' tq = some (.lst (ts.map vR)) ∧ TupsAt tieV H' ts ties ∧ TiesOk names ties, ?_, ?_⟩
  · refine ⟨_, rfl, _, rfl, by omega, by omega, ?_⟩
    refine for_range (lo := 0) (fun i σ H' => ∃ ko ao bo, ∃ (ts : List Addr) (ties : List Tie), σ = [some (.ref sa), some (.ref q), some (.int (size : Int)), some (.ref pd), some (.ref tq), ko, ao, bo, none, none] ∧ StrAt H0 H' sa ∧ H' tq = some (.lst (ts.map vR)) ∧ TupsAt tieV H' ts ties ∧ TiesOk names ties ∧ ties.length ≤ i)
      ⟨none, none, none, [], [], rfl, S1, ht1, TupsAt.nil, ⟨(fun q h => nomatch h), List.nodup_nil, (fun q h => nomatch h), Nat.zero_le _⟩, Nat.le_refl _⟩ ?_ ?_
    · rintro i σ H2 hi ⟨ko, ao, bo, ts, ties, rfl, S2, ht2, hts2, TO, hl⟩
      obtain ⟨c, d, hs2⟩ := S2.2.2
      have hi : i < size := by omega
      -- a, b
      refine ⟨_, rfl, _, rfl, _, rfl, _, _, rfl, .inl (SqL.of (S2.1 _ _ hq)), sa, c, d, _, rfl, hs2, by rw [hlN]; omega, by rw [hlN]; show (names.length : Int) ≤ 1000000000000000000000000000000; omega, fun c1 d1 r1 g0 g1 => ?_⟩
      rw [hlN] at g1
      obtain ⟨a, ha⟩ : ∃ a, names[r1.toNat]? = some a := ⟨_, List.getElem?_eq_getElem (by omega)⟩
      have hta : atI (names.map vS) r1 = some (.str a) := by
        rw [show r1 = ((r1.toNat : Nat) : Int) by omega]
        exact atI_nat (by rw [List.getElem?_map, ha]; rfl)
      have S3 := S2.put c1 d1
      have ht3 : upd H2 sa (.lst [.int c1, .int d1]) tq = some (.lst (ts.map vR)) := by rw [upd_ne (Ne.symm hst)]; exact ht2
      have hts3 : TupsAt tieV (upd H2 sa (.lst [.int c1, .int d1])) ts ties := ⟨hts2.1, fun i a y e1 e2 => by
        have := hts2.2 i a y e1 e2
        rw [upd_ne (ne_of this hs2 (by intro z; cases z))]
        exact this⟩
      generalize upd H2 sa (.lst [.int c1, .int d1]) = H3 at S3 ht3 hts3 ⊢
      obtain ⟨c3, d3, hs3⟩ := S3.2.2
      refine ⟨_, _, _, _, rfl, rfl, SqL.of (S3.1 _ _ hq), hta, ?_⟩
      refine ⟨_, rfl, _, rfl, _, rfl, _, _, rfl, .inl (SqL.of (S3.1 _ _ hq)), sa, c3, d3, _, rfl, hs3, by rw [hlN]; omega, by rw [hlN]; show (names.length : Int) ≤ 1000000000000000000000000000000; omega, fun c4 d4 r2 f0 f1 => ?_⟩
      rw [hlN] at f1
      obtain ⟨b, hb⟩ : ∃ b, names[r2.toNat]? = some b := ⟨_, List.getElem?_eq_getElem (by omega)⟩
      have htb : atI (names.map vS) r2 = some (.str b) := by
        rw [show r2 = ((r2.toNat : Nat) : Int) by omega]
        exact atI_nat (by rw [List.getElem?_map, hb]; rfl)
      have S4 := S3.put c4 d4
      have ht4 : upd H3 sa (.lst [.int c4, .int d4]) tq = some (.lst (ts.map vR)) := by rw [upd_ne (Ne.symm hst)]; exact ht3
      have hts4 : TupsAt tieV (upd H3 sa (.lst [.int c4, .int d4])) ts ties := ⟨hts3.1, fun i a y e1 e2 => by
        have := hts3.2 i a y e1 e2
        rw [upd_ne (ne_of this hs3 (by intro z; cases z))]
        exact this⟩
      generalize upd H3 sa (.lst [.int c4, .int d4]) = H4 at S4 ht4 hts4 ⊢
      refine ⟨_, _, _, _, rfl, rfl, SqL.of (S4.1 _ _ hq), htb, ?_⟩
      have ham := List.mem_of_getElem? ha
      have hbm := List.mem_of_getElem? hb
      have hnm : ∀ z ∈ ties, NameOk z.1 ∧ NameOk z.2 := fun z hz => ⟨hok _ (TO.mem z hz).1, hok _ (TO.mem z hz).2.1⟩
      -- a != b
      refine ⟨_, rfl, _, rfl, rfl, ?_⟩
      by_cases e : a = b
      · refine ⟨false, by rw [decide_eq_true (by rw [e])]; rfl, iteF ?_⟩
        exact ⟨_, _, _, ts, ties, rfl, S4, ht4, hts4, TO, by omega⟩
      refine ⟨true, by rw [decide_eq_false (fun z => e (by injection z))]; rfl, iteT ?_⟩
      -- (a, b) not in ties
      refine ⟨_, rfl, _, rfl, by show 2 ≤ sizeLine; decide, fun t1 ht1' => ⟨_, rfl, tieD (a, b), ties.map tieD, dp_tie upd_same, .lst (SqL.of ((Same.new ht1') _ _ ht4)) (dp_ties (hts4.same (Same.new ht1'))), tieD_shaped (hok a ham) (hok b hbm), ties_shaped hnm, ?_⟩⟩
      have S5 := S4.grow (Same.new (o := .tup [.str a, .str b]) ht1')
      have ht5 := (Same.new (o := .tup [.str a, .str b]) ht1') _ _ ht4
      have hts5 := hts4.same (Same.new (o := .tup [.str a, .str b]) ht1')
      generalize upd H4 t1 (.tup [.str a, .str b]) = H5 at S5 ht5 hts5 ⊢
      rw [any_tie]
      by_cases m1 : (a, b) ∈ ties
      · rw [decide_eq_true m1]
        refine ⟨_, rfl, iteF ?_⟩
        exact ⟨_, _, _, ts, ties, rfl, S5, ht5, hts5, TO, by omega⟩
      rw [decide_eq_false m1]
      refine ⟨_, rfl, iteT ?_⟩
      -- (b, a) not in ties
      refine ⟨_, rfl, _, rfl, by show 2 ≤ sizeLine; decide, fun t2 ht2' => ⟨_, rfl, tieD (b, a), ties.map tieD, dp_tie upd_same, .lst (SqL.of ((Same.new ht2') _ _ ht5)) (dp_ties (hts5.same (Same.new ht2'))), tieD_shaped (hok b hbm) (hok a ham), ties_shaped hnm, ?_⟩⟩
      have S6 := S5.grow (Same.new (o := .tup [.str b, .str a]) ht2')
      have ht6 := (Same.new (o := .tup [.str b, .str a]) ht2') _ _ ht5
      have hts6 := hts5.same (Same.new (o := .tup [.str b, .str a]) ht2')
      generalize upd H5 t2 (.tup [.str b, .str a]) = H6 at S6 ht6 hts6 ⊢
      rw [any_tie]
      by_cases m2 : (b, a) ∈ ties
      · rw [decide_eq_true m2]
        refine ⟨_, rfl, iteF ?_⟩
        exact ⟨_, _, _, ts, ties, rfl, S6, ht6, hts6, TO, by omega⟩
      rw [decide_eq_false m2]
      refine ⟨_, rfl, iteT ?_⟩
      -- ties.append((a, b))
      refine ⟨_, rfl, .inl ⟨rfl, _, SqL.of ht6⟩, _, rfl, _, rfl, by show 2 ≤ sizeLine; decide, fun t3 ht3' => ?_⟩
      refine ⟨_, _, _, rfl, rfl, (Same.new ht3') _ _ ht6, by rw [List.length_map, hts6.1]; exact small_lt (by omega), ?_⟩
      have hp := TupsAt.push (f := tieV) (q := (a, b)) ht6 hts6 ht3' (ws := [.str a, .str b]) rfl
      obtain ⟨s1, s2, c7, d7, s3⟩ := S6.grow (Same.new (o := .tup [.str a, .str b]) ht3')
      refine ⟨_, _, _, ts ++ [t3], ties ++ [(a, b)], rfl, ⟨s1.mut ht0, s2, c7, d7, by rw [upd_ne hst]; exact s3⟩, hp.1, hp.2, ties_snoc TO ham hbm e ?_ (by omega), by rw [List.length_append]; show ties.length + 1 ≤ i + 1; omega⟩
      cases q : adjOf ties a b with
      | false => rfl
      | true => exact absurd (adjOf_iff.mp q) (fun z => z.elim m1 m2)
    · rintro σ H2 ⟨ko, ao, bo, ts, ties, rfl, S2, ht2, hts2, TO, hl⟩
      exact ⟨ko, ao, bo, ts, ties, rfl, S2, ht2, hts2, TO⟩
  rintro σ H2 ⟨ko, ao, bo, ts, ties, rfl, S2, ht2, hts2, TO⟩
  -- own = {}
  intro od hod
  have hod0 : H0 od = none := S2.1.free hod
  have hsod : sa ≠ od := by
    obtain ⟨_, _, c, d, h⟩ := S2
    exact ne_of_none h hod
  have hnod : tq ≠ od := ne_of_none ht2 hod
  have S3 := S2.grow (Same.new (o := .dK []) hod)
  have ht3 := (Same.new (o := .dK []) hod) _ _ ht2
  have hts3 := hts2.same (Same.new (o := .dK []) hod)
  have ho3 : upd H2 od (.dK []) od = some (.dK (dS (prV pr) [])) := upd_same
  generalize upd H2 od (.dK []) = H3 at S3 ht3 hts3 ho3 ⊢
  -- for place in places
  refine ⟨fun σ H' => ∃ po, σ = [some (.ref sa), some (.ref q), some (.int (size : Int)), some (.ref pd), some (.ref tq), ko, ao, bo, some (.ref od), po] ∧ StrAt H0 H' sa ∧ H' tq = some (.lst (ts.map vR)) ∧ TupsAt tieV H' ts ties ∧ H' od = some (.dK (dS (prV pr) names)), ?_, ?_⟩
  · refine ⟨_, rfl, q, rfl, ⟨_, SqL.of (S3.1 _ _ hq)⟩, ?_⟩
    refine for_list (K := K) (a := q) (xs := names.map vS) (fun i σ H' => ∃ po, σ = [some (.ref sa), some (.ref q), some (.int (size : Int)), some (.ref pd), some (.ref tq), ko, ao, bo, some (.ref od), po] ∧ StrAt H0 H' sa ∧ H' tq = some (.lst (ts.map vR)) ∧ TupsAt tieV H' ts ties ∧ H' od = some (.dK (dS (prV pr) (names.take i))))
      ⟨none, rfl, S3, ht3, hts3, ho3⟩ (fun i σ H' _ ⟨_, _, S', _⟩ => SqL.of (S'.1 _ _ hq)) ?_ ?_
    · rintro i x σ H4 hx ⟨po, rfl, S4, ht4, hts4, ho4⟩
      obtain ⟨a, ha, rfl⟩ := str_get hx
      have hnot := nodup_take_get hn ha
      refine ⟨_, rfl, _, rfl, pd, _, rfl, dget_in (.inl (S4.1 _ _ hpd)) (hsub a (List.mem_of_getElem? ha)), _, rfl, _, rfl, od, _, rfl, dput_new ho4 hnot (by rw [List.length_take]; omega), ?_⟩
      obtain ⟨s1, s2, c7, d7, s3⟩ := S4
      refine ⟨_, rfl, ⟨s1.mut hod0, s2, c7, d7, by rw [upd_ne hsod]; exact s3⟩, by rw [upd_ne hnod]; exact ht4, ⟨hts4.1, fun i a y e1 e2 => ?_⟩, by rw [upd_same, take_succ_get ha]⟩
      have := hts4.2 i a y e1 e2
      rw [upd_ne (ne_of this ho4 (by intro z; cases z))]
      exact this
    · rintro σ H4 ⟨po, rfl, S4, ht4, hts4, ho4⟩
      rw [List.length_map, List.take_length] at ho4
      exact ⟨po, rfl, S4, ht4, hts4, ho4⟩
  rintro σ H4 ⟨po, rfl, S4, ht4, hts4, ho4⟩
  -- return Web(tuple(places), ties, own)
  refine ⟨_, rfl, q, _, rfl, .inl ⟨SqL.of (S4.1 _ _ hq), fun tp htp => ?_⟩⟩
  have s5 := Same.new (H := H4) (o := .tup (names.map vS)) htp
  refine ⟨_, rfl, _, rfl, fun x ex hx hex hxx => ?_⟩
  have s7 : Same (upd H4 tp (.tup (names.map vS))) (upd (upd (upd H4 tp (.tup (names.map vS))) ex (.own x)) x (.ins (ga K "Web") ex [])) := (Same.new hex).mut hx
  refine ⟨_, x, ex, tp, tq, od, names, ties, pr, rfl, s7, hx, upd_same, upd_same, ⟨ts, s5 _ _ ht4, hts4.same s5⟩, s5 _ _ ho4, h1, by omega, hn, hok, fun a ha => hpr a (hsub a ha), TO, fun H7 N s8 hN hs hW => ⟨rfl, ?_⟩⟩
  exact k _ x _ (S4.grow (s5.trans s8)) hW (web_good hN hs TO (fun a ha => (hpr a (hsub a ha)).1) (fun a ha => (hpr a (hsub a ha)).2) hok (by omega) (fun z => by rw [z] at h1; simp at h1)) hN (fun a _ => rfl)
end HW

set_option Elab.async false
set_option linter.all false
set_option maxRecDepth 100000
set_option maxHeartbeats 4000000
set_option pp.maxSteps 400
set_option pp.fieldNotation false
namespace HW
open PySem PySem.Spec PyProof.Rows L2 He
open C8 (Cal Met Mak pe_c pe_mk pe_mt pe_mt0 pe_gc InsC call_isC)
open HP
/-- the least costs of W with a at 0, 1, 2 -/
def Costs (W : WebD Str) (a : Str) (u : Int → Int) : Prop := ∀ i, 0 ≤ i → i ≤ 2 → W.Forced a i (u i)
def spCosts (C : Addr) : Sp := fun vs H Q _ => ∃ (wp : Addr) (a : Str) (W : WebD Str), vs = [.ref wp, .str a] ∧ WebAt C H wp W ∧ WebG W ∧ a ∈ W.N ∧ ∀ H' q u, Same H H' → H' q = some (.lst (lmap 3 fun i => V.int (u (i : Int)))) → Costs W a u → Q (.ref q) H'

theorem sc_lcosts : FnScope ["_law_web", "_law_place", "_law_curve", "_law_cost"] ["_law_web", "_law_place"] (defScope s_lcosts) := ⟨rfl, rfl, rfl, by decide +kernel, rfl, by decide +kernel, by decide +kernel⟩

theorem ok_lcosts {P : Program} {w : World} {K : PySem.W.Frag} {mg : Str → Option Value} {base : Heap} (T : Txt K mg) (K_Curve : Mak P w K mg base 7 "Curve" (ga K "Curve") (spCurve (ga K "Curve") (ga K "Web")) []) (F_Web_price : Met P w K mg base 2 (ga K "Web") "price" (spPriceOf (ga K "Web")) []) (F_Curve_none : Prp P w K mg base 1 (ga K "Curve") "none" (spGet (ga K "Curve") 0)) (F_Curve_half : Prp P w K mg base 1 (ga K "Curve") "half" (spGet (ga K "Curve") 1)) (F_Curve_both : Prp P w K mg base 1 (ga K "Curve") "both" (spGet (ga K "Curve") 2)) : Cal P w K mg base 9 "_law_costs" (spCosts (ga K "Web")) [] := by
  refine cal_of (D := d_lcosts) (T.says.def_ 41 rfl) T.g__law_costs (fun _ _ _ _ _ _ us hl => match us, hl with | [_, _], _ => rfl) sc_lcosts (fun vs H Q E h => ?_) (fun cdv A outer s H vs Q E hr h => ?_)
  · obtain ⟨wp, a, _, rfl, _⟩ := h
    rfl
  have hu := hu_of hr
  refine ⟨_, (pss_cons (ps_set (i := 2) sc_lcosts.nd rfl (Or.inl rfl) (pe_mk K_Curve hr (by decide) rfl (pa_cons (pv 0) (pa_cons (pv 1) pa_nil))))
    (pss_cons (ps_set (i := 3) sc_lcosts.nd rfl (Or.inl rfl) (pe_mt F_Web_price hr (by decide) (pv 0) (pa_cons (pv 1) pa_nil)))
    (pss_one (ps_ret (pe_lst (pa_cons (pe_prp F_Curve_none hr (by decide) (pv 2)) (pa_cons (pe_op op_add (pe_prp F_Curve_half hr (by decide) (pv 2)) (pv 3)) (pa_cons (pe_op op_add (pe_prp F_Curve_both hr (by decide) (pv 2)) (pe_op op_mul pe_int (pv 3))) pa_nil)))))))), ?_⟩
  obtain ⟨wp, a, W, rfl, A0, G, ha, k⟩ := h
  refine ⟨_, rfl, _, rfl, fun x dx hx hdx hne => ?_⟩
  have s1 : Same H (upd (upd H dx (.own x)) x (.ins (ga K "Curve") dx [])) := (Same.new hdx).mut hx
  refine ⟨H, x, dx, wp, a, W, rfl, s1, hx, upd_same, A0, G, ha, fun H1 r s2 hC hR => ⟨rfl, ?_⟩⟩
  obtain ⟨wx, dp, db, la, a1, a2, a3, a4⟩ := id (A0.same s2).ex
  refine ⟨_, rfl, wp, wx, _, rfl, a1, rfl, _, rfl, wp, a, W, rfl, A0.same s2, ha, ?_⟩
  obtain ⟨cx, tp, c1, c2⟩ := id hC.ex
  refine ⟨_, rfl, x, cx, _, rfl, c1, x, r, rfl, hC, ?_⟩
  refine ⟨_, rfl, x, cx, _, rfl, c1, x, r, rfl, hC, _, rfl, _, _, rfl, rfl, ?_⟩
  refine ⟨_, rfl, x, cx, _, rfl, c1, x, r, rfl, hC, _, rfl, _, _, rfl, rfl, .inl ⟨by decide, by decide⟩, _, _, rfl, rfl, ?_⟩
  refine ⟨by show 3 ≤ sizeLine; decide, fun q hq => ?_⟩
  refine k _ q (fun i => r i + i * W.pr a) (s2.trans (Same.new hq)) ?_ hR
  rw [upd_same]
  show _ = some (HO.lst [V.int (r ((0 : Nat) : Int) + ((0 : Nat) : Int) * W.pr a), V.int (r ((1 : Nat) : Int) + ((1 : Nat) : Int) * W.pr a), V.int (r ((2 : Nat) : Int) + ((2 : Nat) : Int) * W.pr a)])
  have e0 : r ((0 : Nat) : Int) + ((0 : Nat) : Int) * W.pr a = r ((0 : Nat) : Int) := by
    show r 0 + 0 * W.pr a = r 0
    omega
  have e1 : r ((1 : Nat) : Int) + ((1 : Nat) : Int) * W.pr a = r ((1 : Nat) : Int) + W.pr a := by
    show r 1 + 1 * W.pr a = r 1 + W.pr a
    omega
  rw [e0, e1]
  rfl
end HW

set_option Elab.async false
set_option linter.all false
set_option maxRecDepth 100000
set_option maxHeartbeats 4000000
set_option pp.maxSteps 400
set_option pp.fieldNotation false
namespace HW
open PySem PySem.Spec PyProof.Rows L2 He
open C8 (Cal Met Mak pe_c pe_mk pe_mt pe_mt0 pe_gc InsC call_isC)
open HP
def kAt (need i : Int) : Int := if need - i > 0 then need - i else 0
theorem kAt_le {need i j : Int} (h0 : 0 ≤ j) : (kAt need i).toNat ≤ j.toNat ↔ need ≤ i + j := by
  unfold kAt
  split <;> omega
theorem kAt_2 {need i : Int} (h0 : 0 ≤ i) (hn : need = 2 ∨ need = 0) : (kAt need i).toNat ≤ 2 := by
  unfold kAt
  split <;> omega
theorem kAt_0 {need i : Int} : 0 ≤ kAt need i := by
  unfold kAt
  split <;> omega
theorem cut_low {w : Int → Int} {need i : Int} (h0 : 0 ≤ i) (hn : need = 2 ∨ need = 0) :
    cutV (lmap 3 fun j => V.int (w (j : Int))) (some (kAt need i)) none = ((lmap 3 fun j => w (j : Int)).drop (kAt need i).toNat).map V.int := by
  have h2 := kAt_2 h0 hn
  have h3 := kAt_0 (need := need) (i := i)
  unfold cutV
  rw [show kAt need i = (((kAt need i).toNat : Nat) : Int) by omega, HT.sIx_none, HT.sIx_nat, lmap_length, Int.toNat_natCast, Nat.min_eq_left (by omega), ← lmap_map (f := fun j => w (j : Int)) (k := V.int), ← List.map_drop]
  refine List.take_of_length_le ?_
  rw [List.length_map, List.length_drop, lmap_length]
  exact Nat.le_refl _
/-- the least of the other side's costs -/
def LowOf (w : Int → Int) (need i m : Int) : Prop := (∃ j, 0 ≤ j ∧ j ≤ 2 ∧ need ≤ i + j ∧ w j = m) ∧ ∀ j, 0 ≤ j → j ≤ 2 → need ≤ i + j → m ≤ w j
theorem mem_low {w : Int → Int} {need i x : Int} (hn : need = 2 ∨ need = 0) (hi0 : 0 ≤ i) : x ∈ (lmap 3 fun j => w (j : Int)).drop (kAt need i).toNat ↔ ∃ j, 0 ≤ j ∧ j ≤ 2 ∧ need ≤ i + j ∧ w j = x := by
  rw [List.mem_iff_getElem?]
  constructor
  · rintro ⟨t, ht⟩
    rw [List.getElem?_drop] at ht
    obtain ⟨h1, h2⟩ := lmap_get' ht
    refine ⟨(((kAt need i).toNat + t : Nat) : Int), by omega, by omega, ?_, h2.symm⟩
    exact (kAt_le (by omega)).mp (by omega)
  · rintro ⟨j, h0, h2, h3, rfl⟩
    have := (kAt_le h0).mpr h3
    refine ⟨j.toNat - (kAt need i).toNat, ?_⟩
    rw [List.getElem?_drop, show (kAt need i).toNat + (j.toNat - (kAt need i).toNat) = j.toNat by omega, lmap_get (by omega)]
    rw [show ((j.toNat : Nat) : Int) = j by omega]
theorem low_len {w : Int → Int} {need i : Int} (hn : need = 2 ∨ need = 0) (hi0 : 0 ≤ i) : 0 < ((lmap 3 fun j => w (j : Int)).drop (kAt need i).toNat).length := by
  have := kAt_2 hi0 hn
  rw [List.length_drop, lmap_length]
  omega
def spBridge (C : Addr) : Sp := fun vs H Q _ => ∃ (wp lq rq : Addr) (a b : Str) (need : Int) (W W1 W2 : WebD Str) (u w : Int → Int), vs = [.ref wp, .ref lq, .ref rq, .str a, .str b, .int need] ∧ WebAt C H wp W ∧ WebG W ∧ H lq = some (.lst (lmap 3 fun i => V.int (u (i : Int)))) ∧ H rq = some (.lst (lmap 3 fun i => V.int (w (i : Int)))) ∧
  Joined W1 W2 W a b need ∧ Costs W1 a u ∧ Costs W2 b w ∧ ∀ H', Same H H' → Q (.bl true) H'

theorem sc_lbridge : FnScope ["_law_web", "_law_left", "_law_right", "_law_a", "_law_b", "_law_need", "_law_i", "_law_low", "_law_told", "_law_curve", "_law_cost", "_law_total"] ["_law_web", "_law_left", "_law_right", "_law_a", "_law_b", "_law_need"] (defScope s_lbridge) := ⟨rfl, rfl, rfl, by decide +kernel, rfl, by decide +kernel, by decide +kernel⟩

theorem ok_lbridge {P : Program} {w : World} {K : PySem.W.Frag} {mg : Str → Option Value} {base : Heap} (T : Txt K mg) (K_Curve : Mak P w K mg base 7 "Curve" (ga K "Curve") (spCurve (ga K "Curve") (ga K "Web")) []) (F_Web_price : Met P w K mg base 2 (ga K "Web") "price" (spPriceOf (ga K "Web")) []) (F_Web_contains : Met P w K mg base 1 (ga K "Web") "__contains__" (spContains (ga K "Web")) []) (F_Curve_none : Prp P w K mg base 1 (ga K "Curve") "none" (spGet (ga K "Curve") 0)) (F_Curve_half : Prp P w K mg base 1 (ga K "Curve") "half" (spGet (ga K "Curve") 1)) (F_Curve_both : Prp P w K mg base 1 (ga K "Curve") "both" (spGet (ga K "Curve") 2)) (F_Curve_call : Met P w K mg base 4 (ga K "Curve") "__call__" (spCallC (ga K "Curve")) []) (F_worth : Cal P w K mg base 6 "worth" (spWorth (ga K "Web")) []) (F_can : Cal P w K mg base 6 "can" (spCan (ga K "Web")) []) (F_lisint : Cal P w K mg base 1 "_law_is_integer" spIsInt []) : Cal P w K mg base 10 "_law_is_bridge" (spBridge (ga K "Web")) [] := by
  refine cal_of (D := d_lbridge) (T.says.def_ 42 rfl) T.g__law_is_bridge (fun _ _ _ _ _ _ us hl => match us, hl with | [_, _, _, _, _, _], _ => rfl) sc_lbridge (fun vs H Q E h => ?_) (fun cdv A outer s H vs Q E hr h => ?_)
  · obtain ⟨wp, lq, rq, a, b, need, _, _, _, _, _, rfl, _⟩ := h
    rfl
  have hu := hu_of hr
  refine ⟨_, (pss_cons (ps_set (i := 7) sc_lbridge.nd rfl (Or.inl rfl) (pe_callB (cr_min rfl) (by rfl) T.f_min (by decide +kernel) (pa_cons (pe_lc rfl sc_lbridge.nd (pi_range1 (by rfl) T.f_range (pa_cons pe_int pa_nil)) (blkOk_by (N := ["_law_web", "_law_left", "_law_right", "_law_a", "_law_b", "_law_need", "_law_i", "_law_low", "_law_told", "_law_curve", "_law_cost", "_law_total"]) (sc := defScope s_lbridge) (own := [("_law_i", 6)]) (by decide +kernel)) (fun _ _ _ _ _ => (pg_name (i := 6) sc_lbridge.nd rfl (Or.inl rfl))) (fun _ _ _ _ _ => pts_nil) (fun _ _ _ _ _ => (pe_op op_add (pe_ix (ix_list_k (K := K) rfl) (pv 1) (pv 6) (fun _ _ => rfl)) (pe_callB (cr_min_k (K := K) rfl rfl) (by rfl) T.f_min (by decide +kernel) (pa_cons (pe_slice (sl_list_k (K := K) rfl) (pv 2) (po_some (pe_callB (call_max2 rfl) (by rfl) T.f_max (by decide +kernel) (pa_cons pe_int (pa_cons (pe_op op_sub (pv 5) (pv 6)) pa_nil)))) po_none) pa_nil))))) pa_nil)))
    (pss_cons (ps_set (i := 8) sc_lbridge.nd rfl (Or.inl rfl) (pe_c F_worth hr (by decide) rfl (pa_cons (pv 0) pa_nil)))
    (pss_cons (ps_if (PW.pt (pw_or (pt_not (pt_val (pe_c F_lisint hr (by decide) rfl (pa_cons (pv 8) pa_nil)))) (pw_or1 (pt_cmpR op_ne (pv 8) (pv 7) (nomark _))))) (pss_one (ps_ret pe_bl)) pss_nil)
    (pss_cons (ps_set (i := 9) sc_lbridge.nd rfl (Or.inl rfl) (pe_mk K_Curve hr (by decide) rfl (pa_cons (pv 0) (pa_cons (pv 3) pa_nil))))
    (pss_cons (ps_set (i := 10) sc_lbridge.nd rfl (Or.inl rfl) (pe_mt F_Web_price hr (by decide) (pv 0) (pa_cons (pv 3) pa_nil)))
    (C8.pss_cut (ps_for PassesOwn.never rfl (pi_range1 (by rfl) T.f_range (pa_cons pe_int pa_nil)) (pg_name (i := 6) sc_lbridge.nd rfl (Or.inl rfl)) (pss_cons (ps_set (i := 11) sc_lbridge.nd rfl (Or.inl rfl) (pe_op op_add (pe_ix ix_list (pv 1) (pv 6) (fun _ _ => rfl)) (pe_callB (cr_min rfl) (by rfl) T.f_min (by decide +kernel) (pa_cons (pe_slice sl_list (pv 2) (po_some (pe_callB (call_max2 rfl) (by rfl) T.f_max (by decide +kernel) (pa_cons pe_int (pa_cons (pe_op op_sub (pv 5) (pv 6)) pa_nil)))) po_none) pa_nil))))
    (pss_cons (ps_if (pt_cmpR op_ne (pe_ix ix_list (pe_lst (pa_cons (pe_prp F_Curve_none hr (by decide) (pv 9)) (pa_cons (pe_prp F_Curve_half hr (by decide) (pv 9)) (pa_cons (pe_prp F_Curve_both hr (by decide) (pv 9)) pa_nil)))) (pv 6) (fun _ _ => rfl)) (pe_op op_sub (pv 11) (pe_op op_mul (pv 6) (pv 10))) (nomark _)) (pss_one (ps_ret pe_bl)) pss_nil)
    (pss_one (ps_if (PW.pt (pw_or (PW.pt (pw_and (pt_cmpR op_notBl (pe_c F_can hr (by decide) rfl (pa_cons (pv 0) (pa_cons (pv 3) (pa_cons (pv 6) pa_nil)))) pe_bl (nomark _)) (pw_and1 (pt_cmpR op_eq (pv 11) (pv 7) (nomark _))))) (pw_or1 (PW.pt (pw_and (pt_cmpR op_notBl (pe_c F_can hr (by decide) rfl (pa_cons (pv 0) (pa_cons (pv 3) (pa_cons (pv 6) pa_nil)))) pe_bl (nomark _)) (pw_and1 (pt_cmpR op_ne (pv 11) (pv 7) (nomark _)))))))) (pss_one (ps_ret pe_bl)) pss_nil)))))
    (pss_one (ps_ret (pe_and (pe_cmpR op_eq (pe_callM T.callO F_Curve_call hr (by decide) (pv 9) (pa_cons (pv 10) pa_nil)) (pv 7) (nomark _)) (pe_one (pe_cmpR (op_inM F_Web_contains hr (by decide)) (pv 4) (pv 0) rfl))))))))))), ?_⟩
  obtain ⟨wp, lq, rq, a, b, need, W, W1, W2, u, w', rfl, A0, G, hl, hr', J, hu', hw', k⟩ := h
  have hn := J.need2
  have ha : a ∈ W.N := J.mem.mpr (.inl J.ha)
  have hb : b ∈ W.N := J.mem.mpr (.inr J.hb)
  have hfor : ∀ i m, 0 ≤ i → i ≤ 2 → LowOf w' need i m → W.Forced a i (u i + m) := fun i m h0 h2 h => J.forced G.ok hu' hw' h0 h2 h.1 h.2
  -- low
  refine ⟨_, rfl, by decide, by decide, fun L hL => ?_⟩
  refine lc_range (lo := 0) (fun i H' => ∃ TT : Int → Int, Same H H' ∧ H' L = some (.lst (lmap i fun j => V.int (TT (j : Int)))) ∧ ∀ j : Nat, j < i → W.Forced a (j : Int) (TT (j : Int))) ⟨fun _ => 0, Same.new hL, upd_same, fun j hj => by omega⟩ ?_ ?_
  · rintro i H1 hi ⟨TT, s1, hL1, hT1⟩
    have hi3 : i < 3 := hi
    have e0 : (0 : Int) + (i : Int) = (i : Int) := Int.zero_add _
    rw [e0]
    refine ⟨rfl, _, rfl, _, rfl, _, _, _, _, rfl, rfl, SqL.of (s1 _ _ hl), atI_lmap hi3, ?_⟩
    refine ⟨_, rfl, _, rfl, _, rfl, _, _, rfl, rfl, _, _, rfl, _, rfl, rq, _, rfl, SqL.of (s1 _ _ hr'), fun q hq => ?_⟩
    have ec := cut_low (w := w') (need := need) (i := (i : Int)) (by omega) hn
    refine ⟨q, (lmap 3 fun j => w' (j : Int)).drop (kAt need (i : Int)).toNat, rfl, SqL.of (by rw [upd_same, ← ec]; rfl), low_len hn (by omega), fun m hm hle => ?_⟩
    have hm := (mem_low hn (by omega)).mp hm
    have hF := hfor i m (by omega) (by omega) ⟨hm, fun j h0 h2 h3 => hle _ ((mem_low hn (by omega)).mpr ⟨j, h0, h2, h3, rfl⟩)⟩
    refine ⟨_, _, rfl, rfl, _, (Same.new hq) _ _ hL1, by rw [lmap_length]; exact small_lt (by omega), fun j => if j = (i : Int) then u (i : Int) + m else TT j, (s1.trans (Same.new hq)).mut hL, ?_, fun j hj => ?_⟩
    · rw [upd_same, lmap_snoc]
      dsimp only
      rw [if_pos rfl, lmap_congr (g := fun j => V.int (if (j : Int) = (i : Int) then u (i : Int) + m else TT (j : Int))) (fun j hj => by rw [if_neg (by omega)])]
    · dsimp only
      by_cases e : (j : Int) = (i : Int)
      · rw [if_pos e, e]
        exact hF
      · rw [if_neg e]
        exact hT1 j (by omega)
  rintro H1 ⟨TT, s1, hL1, hT1⟩
  have hT : ∀ i, 0 ≤ i → i ≤ 2 → W.Forced a i (TT i) := fun i h0 h2 => by
    have := hT1 i.toNat (show i.toNat < 3 by omega)
    rw [show ((i.toNat : Nat) : Int) = i by omega] at this
    exact this
  refine ⟨L, lmap 3 fun j => TT (j : Int), rfl, SqL.of (by rw [lmap_map]; exact hL1), by rw [lmap_length]; decide, fun low hlow hlle => ?_⟩
  have hW : W.Worth low := by
    obtain ⟨i, hi, e⟩ := lmap_mem.mp hlow
    refine worth_of_forced ha hT ⟨(i : Int), by omega, by omega, e⟩ fun j h0 h2 => hlle _ (lmap_mem.mpr ⟨j.toNat, by omega, ?_⟩)
    rw [show ((j.toNat : Nat) : Int) = j by omega]
  clear hlle hlow hL1 hT1 hT
  -- told = worth(web)
  refine ⟨_, rfl, wp, W, rfl, A0.same s1, G, fun H2 t s2 ht => ?_⟩
  obtain rfl : t = low := GLeast.unique ht hW
  refine ⟨_, rfl, t, rfl, True.intro, _, rfl, iteF ?_⟩
  refine ⟨_, rfl, _, rfl, rfl, false, by rw [decide_eq_true rfl]; rfl, iteF ?_⟩
  have t2 := s1.trans s2
  -- curve = Curve(web, a)
  refine ⟨_, rfl, _, rfl, fun x dx hx hdx hne => ?_⟩
  have s3 : Same H2 (upd (upd H2 dx (.own x)) x (.ins (ga K "Curve") dx [])) := (Same.new hdx).mut hx
  refine ⟨H2, x, dx, wp, a, W, rfl, s3, hx, upd_same, A0.same t2, G, ha, fun H3 r s4 hC hR => ⟨rfl, ?_⟩⟩
  have t3 := t2.trans s4
  obtain ⟨wx, dp, db, la, a1, a2, a3, a4⟩ := id (A0.same t3).ex
  refine ⟨_, rfl, wp, wx, _, rfl, a1, rfl, _, rfl, wp, a, W, rfl, A0.same t3, ha, ?_⟩
  -- for i in range(3)
  refine ⟨fun σ H' => ∃ io to, σ = [some (.ref wp), some (.ref lq), some (.ref rq), some (.str a), some (.str b), some (.int need), io, some (.int t), some (.int t), some (.ref x), some (.int (W.pr a)), to] ∧ Same H H' ∧ CurveAt (ga K "Curve") H' x r, ?_, ?_⟩
  · refine ⟨_, rfl, by decide, by decide, ?_⟩
    refine for_range (lo := 0) (fun i σ H' => ∃ io to, σ = [some (.ref wp), some (.ref lq), some (.ref rq), some (.str a), some (.str b), some (.int need), io, some (.int t), some (.int t), some (.ref x), some (.int (W.pr a)), to] ∧ Same H H' ∧ CurveAt (ga K "Curve") H' x r)
      ⟨_, none, rfl, t3, hC⟩ ?_ ?_
    · rintro i σ H4 hi ⟨io, to, rfl, s5, C4⟩
      have hi3 : i < 3 := hi
      have e0 : (0 : Int) + (i : Int) = (i : Int) := Int.zero_add _
      rw [e0]
      -- total
      refine ⟨_, rfl, _, rfl, _, _, _, _, rfl, rfl, SqL.of (s5 _ _ hl), atI_lmap hi3, ?_⟩
      refine ⟨_, rfl, _, rfl, _, rfl, _, _, rfl, rfl, _, _, rfl, _, rfl, rq, _, rfl, SqL.of (s5 _ _ hr'), fun q hq => ?_⟩
      have ec := cut_low (w := w') (need := need) (i := (i : Int)) (by omega) hn
      refine ⟨q, (lmap 3 fun j => w' (j : Int)).drop (kAt need (i : Int)).toNat, rfl, SqL.of (by rw [upd_same, ← ec]; rfl), low_len hn (by omega), fun m hm hle => ?_⟩
      have hm := (mem_low hn (by omega)).mp hm
      have hF := hfor i m (by omega) (by omega) ⟨hm, fun j h0 h2 h3 => hle _ ((mem_low hn (by omega)).mpr ⟨j, h0, h2, h3, rfl⟩)⟩
      clear hle hm ec
      have s6 := s5.trans (Same.new (o := .lst (cutV (lmap 3 fun i => V.int (w' (i : Int))) (some (kAt need (i : Int))) none)) hq)
      have C5 := C4.same (Same.new (o := .lst (cutV (lmap 3 fun i => V.int (w' (i : Int))) (some (kAt need (i : Int))) none)) hq)
      refine ⟨_, _, rfl, rfl, ?_⟩
      have hru : r (i : Int) + (i : Int) * W.pr a = u (i : Int) + m := GLeast.unique (hR (i : Int) (by omega) (by omega)) hF
      obtain ⟨cx, tp, c1, c2⟩ := id C5.ex
      refine ⟨_, rfl, x, cx, _, rfl, c1, x, r, rfl, C5, _, rfl, x, cx, _, rfl, c1, x, r, rfl, C5, _, rfl, x, cx, _, rfl, c1, x, r, rfl, C5, by show 3 ≤ sizeLine; decide, fun l hl5 => ?_⟩
      have hat : atI [V.int (r ((0 : Nat) : Int)), V.int (r ((1 : Nat) : Int)), V.int (r ((2 : Nat) : Int))] (i : Int) = some (V.int (r (i : Int))) := atI_lmap (N := 3) (f := fun j => V.int (r (j : Int))) hi3
      have s7 := s6.trans (Same.new (o := .lst [V.int (r ((0 : Nat) : Int)), V.int (r ((1 : Nat) : Int)), V.int (r ((2 : Nat) : Int))]) hl5)
      have C6 := C5.same (Same.new (o := .lst [V.int (r ((0 : Nat) : Int)), V.int (r ((1 : Nat) : Int)), V.int (r ((2 : Nat) : Int))]) hl5)
      refine ⟨_, rfl, _, _, _, _, rfl, rfl, SqL.of upd_same, hat, _, rfl, _, rfl, _, rfl, _, _, rfl, rfl, .inl ⟨by omega, by omega⟩, _, _, rfl, rfl, rfl, false, ?_, iteF ?_⟩
      · have e : V.int (r (i : Int)) = V.int (u (i : Int) + m - (i : Int) * W.pr a) := by
          congr 1
          omega
        rw [decide_eq_true e]
        rfl
      have hcan := can_iff (v := (i : Int)) hW hF
      -- can(web, a, i) is not True and total == low
      refine ⟨_, rfl, _, rfl, _, rfl, wp, a, (i : Int), W, rfl, A0.same s7, G, ha, by omega, by omega, fun H6 bv s8 hbv => ⟨bv, true, rfl, rfl, _, rfl, ?_⟩⟩
      have t8 := s7.trans s8
      have C7 := C6.same s8
      by_cases e : u (i : Int) + m = t
      · have ebv := hbv.mpr (hcan.mpr e)
        subst ebv
        refine iteF ?_
        refine ⟨_, rfl, _, rfl, _, rfl, wp, a, (i : Int), W, rfl, A0.same t8, G, ha, by omega, by omega, fun H7 bv2 s9 hbv2 => ⟨bv2, false, rfl, rfl, _, rfl, ?_⟩⟩
        have ebv2 := hbv2.mpr (hcan.mpr e)
        subst ebv2
        refine iteT ⟨_, rfl, _, rfl, rfl, false, ?_, iteF ?_⟩
        · rw [decide_eq_true (show V.int (u (i : Int) + m) = V.int t by rw [e])]; rfl
        exact ⟨_, _, rfl, t8.trans s9, C7.same s9⟩
      · have ebv : bv = false := by
          cases bv with
          | false => rfl
          | true => exact absurd (hcan.mp (hbv.mp rfl)) e
        subst ebv
        refine iteT ⟨_, rfl, _, rfl, rfl, false, ?_, iteF ?_⟩
        · rw [decide_eq_false (fun z => e (by injection z))]
        refine ⟨_, rfl, _, rfl, _, rfl, wp, a, (i : Int), W, rfl, A0.same t8, G, ha, by omega, by omega, fun H7 bv2 s9 hbv2 => ⟨bv2, false, rfl, rfl, _, rfl, ?_⟩⟩
        have ebv2 : bv2 = false := by
          cases bv2 with
          | false => rfl
          | true => exact absurd (hcan.mp (hbv2.mp rfl)) e
        subst ebv2
        refine iteF ?_
        exact ⟨_, _, rfl, t8.trans s9, C7.same s9⟩
    · rintro σ H4 ⟨io, to, rfl, s5, C4⟩
      exact ⟨io, to, rfl, s5, C4⟩
  rintro σ H4 ⟨io, to, rfl, s5, C4⟩
  -- return curve(cost) == low and b in web
  have hp1 : 1 ≤ W.pr a := by
    have := G.ok.pos a ha
    omega
  obtain ⟨cx, tp, c1, c2⟩ := id C4.ex
  refine ⟨_, rfl, x, rfl, _, rfl, .inr ⟨cx, _, c1⟩, x, W.pr a, r, rfl, C4, hp1, G.le a ha, fun H5 m s6 hm1 hm2 => ?_⟩
  have hWm : W.Worth m := worth_of_forced ha hR hm1 hm2
  obtain rfl : m = t := GLeast.unique hWm hW
  have t6 := s5.trans s6
  obtain ⟨wx, dp, db, la, a1, a2, a3, a4⟩ := id (A0.same t6).ex
  refine ⟨_, rfl, rfl, true, ?_, iteT ?_⟩
  · rw [decide_eq_true rfl]
  refine ⟨_, rfl, _, rfl, wp, wx, _, rfl, a1, wp, b, W, rfl, A0.same t6, true, by rw [decide_eq_true hb], ?_⟩
  exact k _ t6
end HW

set_option Elab.async false
set_option linter.all false
set_option maxRecDepth 100000
set_option maxHeartbeats 4000000
set_option pp.maxSteps 400
set_option pp.fieldNotation false
namespace HW
open PySem PySem.Spec PyProof.Rows L2 He
open C8 (Cal Met Mak pe_c pe_mk pe_mt pe_mt0 pe_gc InsC call_isC)
open HP
def rm (H : Hp) (s : Addr) : Hp := fun b => if b = s then none else H b
theorem rm_get {H : Hp} {s b : Addr} {o : HO} (h : H b = some o) (ne : b ≠ s) : rm H s b = some o := by
  unfold rm
  rw [if_neg ne]
  exact h
theorem rm_at {H : Hp} {s : Addr} {c d : Int} (h : H s = some (.lst [.int c, .int d])) : StrAt (rm H s) H s := by
  refine ⟨fun b o e => ?_, ?_, c, d, h⟩
  · unfold rm at e
    split at e
    · cases e
    · exact e
  · unfold rm
    rw [if_pos rfl]
theorem StrAt.over {Hb H H' : Hp} {s : Addr} (h : StrAt Hb H s) (k : StrAt (rm H s) H' s) : StrAt Hb H' s := by
  refine ⟨fun b o e => k.1 _ _ (rm_get (h.1 _ _ e) (ne_of_none e h.2.1)), h.2.1, k.2.2⟩
theorem strs_not_ints {l : List Str} {c d : Int} : l.map vS ≠ [V.int c, V.int d] := by
  intro e
  cases l with
  | nil => cases e
  | cons x r => 
    rw [List.map_cons] at e
    injection e with e1 _
    cases e1
theorem ne_strs {H : Hp} {s b : Addr} {l : List Str} {c d : Int} (h : H s = some (.lst [.int c, .int d])) (k : H b = some (.lst (l.map vS))) : b ≠ s := fun e => by
  rw [e, h] at k
  injection k with k
  injection k with k
  exact strs_not_ints k.symm
theorem WebAt.rm {C : Addr} {H : Hp} {p s : Addr} {W : WebD Str} {c d : Int} (A : WebAt C H p W) (h : H s = some (.lst [.int c, .int d])) : WebAt C (rm H s) p W := by
  obtain ⟨dx, dp, db, la, h1, h2, h3, h4⟩ := A.ex
  exact ⟨dx, dp, db, la, rm_get h1 (ne_of h1 h (by intro z; cases z)), rm_get h2 (ne_of h2 h (by intro z; cases z)), rm_get h3 (ne_of h3 h (by intro z; cases z)), fun a ha => rm_get (h4 a ha) (ne_strs h (h4 a ha))⟩
theorem cut_take {l : List Str} {n : Nat} (h : n ≤ l.length) : cutV (l.map vS) none (some (n : Int)) = (l.take n).map vS := by
  unfold cutV
  rw [HT.sIx_none, HT.sIx_nat, List.length_map, List.drop_zero, Nat.sub_zero, Nat.min_eq_left h, List.map_take]
theorem cut_drop {l : List Str} {n : Nat} (h : n ≤ l.length) : cutV (l.map vS) (some (n : Int)) none = (l.drop n).map vS := by
  unfold cutV
  rw [HT.sIx_none, HT.sIx_nat, List.length_map, Nat.min_eq_left h, ← List.map_drop]
  refine List.take_of_length_le ?_
  rw [List.length_map, List.length_drop]
  exact Nat.le_refl _
/-- the sum of two webs, told as the laws of names want it -/
theorem joined0 {W1 W2 W : WebD Str} (G1 : WebG W1) (G2 : WebG W2) (hd : ∀ x ∈ W1.N, x ∉ W2.N) (J : JoinW W1 W2 W) {a b : Str} (ha : a ∈ W1.N) (hb : b ∈ W2.N) : Joined W1 W2 W a b 0 := by
  have f2 : ∀ x ∈ W1.N, ∀ y, W2.adj x y = false := fun x hx y => by
    cases e : W2.adj x y with
    | false => rfl
    | true => exact absurd (G2.mem x y e).1 (hd x hx)
  have f1 : ∀ x, ∀ y ∈ W2.N, W1.adj x y = false := fun x y hy => by
    cases e : W1.adj x y with
    | false => rfl
    | true => exact absurd hy (hd y (G1.mem x y e).2)
  refine ⟨J.N, hd, J.p1, J.p2, ha, hb, fun x hx y hy => ?_, fun x hx y hy => ?_, fun x hx y hy => ?_, .inr rfl⟩
  · rw [J.adj, f2 x hx, Bool.or_false]
  · rw [J.adj, f1 x y hy, Bool.false_or]
  · rw [J.adj, f2 x hx, f1 x y hy]
    rfl
theorem joined2 {W1 W2 W W' : WebD Str} {a b : Str} (J : Joined W1 W2 W a b 0) (t : TieW W b a W') : Joined W1 W2 W' a b 2 := by
  have hb1 : b ∉ W1.N := fun z => J.disj b z J.hb
  have ha2 : a ∉ W2.N := J.disj a J.ha
  refine ⟨by rw [t.N]; exact J.perm, J.disj, fun x hx => by rw [t.pr]; exact J.pr1 x hx, fun x hx => by rw [t.pr]; exact J.pr2 x hx, J.ha, J.hb, fun x hx y hy => ?_, fun x hx y hy => ?_, fun x hx y hy => ?_, .inl rfl⟩
  · rw [← J.in1 x hx y hy, Bool.eq_iff_iff, t.adj]
    refine ⟨fun h => ?_, .inl⟩
    rcases h with h | ⟨h, _⟩ | ⟨_, h⟩
    · exact h
    · exact absurd (h ▸ hx) hb1
    · exact absurd (h ▸ hy) hb1
  · rw [← J.in2 x hx y hy, Bool.eq_iff_iff, t.adj]
    refine ⟨fun h => ?_, .inl⟩
    rcases h with h | ⟨_, h⟩ | ⟨h, _⟩
    · exact h
    · exact absurd (h ▸ hy) ha2
    · exact absurd (h ▸ hx) ha2
  · have h0 := J.cross x hx y hy
    have h0 : W.adj x y = false := by rw [h0]; rfl
    rw [Bool.eq_iff_iff, t.adj, h0]
    simp only [Bool.false_eq_true, false_or, Bool.and_eq_true, decide_eq_true_eq, true_and]
    refine ⟨fun h => ?_, fun h => .inr h⟩
    rcases h with ⟨h, _⟩ | h
    · exact absurd (h ▸ hx) hb1
    · exact h
theorem tiesOf_le {W : WebD Str} (h : W.N.Pairwise slt) : 2 * (tiesOf W).length ≤ W.N.length * (W.N.length - 1) := by
  have h1 : (tiesOf W).length ≤ (allPairs W.N).length := by
    refine flatMap_length_le fun a _ => ?_
    rw [List.length_map, List.length_map, List.filter_filter]
    have : ∀ l : List Str, (l.filter fun b => decide (slt a b) && W.adj a b).length ≤ (l.filter fun b => decide (slt a b)).length := fun l => by
      rw [← List.countP_eq_length_filter, ← List.countP_eq_length_filter]
      exact List.countP_mono_left fun b _ h => by rw [Bool.and_eq_true] at h; exact h.1
    exact this _
  have h2 := allPairs_length h
  omega
def spLaw (K : PySem.W.Frag) : Sp := fun vs H Q _ => ∃ (sp : Addr) (cells : List Int), vs = [.ref sp] ∧ SqL K H sp (cells.map vI) ∧ ∀ H', Same H H' → Q (.bl true) H'

theorem sc_law : FnScope ["_law_script", "_law_first", "_law_size", "_law_many", "_law_dense", "_law_kind", "_law_places_here", "_law_prices_here", "_law_stream_here", "_law_one", "_law_other", "_law_choice", "_law_a", "_law_b", "_law_left", "_law_right", "_law_apart", "_law_tied"] ["_law_script"] (defScope s_law) := ⟨rfl, rfl, rfl, by decide +kernel, rfl, by decide +kernel, by decide +kernel⟩

theorem ok_law {P : Program} {w : World} {K : PySem.W.Frag} {mg : Str → Option Value} {base : Heap} (T : Txt K mg) (F_lstream : Cal P w K mg base 1 "_law_stream" (spStream K) []) (F_ldraw : Cal P w K mg base 1 "_law_draw" spDraw []) (F_lplaces : Cal P w K mg base 3 "_law_places" spPlacesL []) (F_lprices : Cal P w K mg base 2 "_law_prices" spPricesL []) (F_lhalfweb : Cal P w K mg base 6 "_law_half_web" (spHalf (ga K "Web")) []) (F_lcosts : Cal P w K mg base 9 "_law_costs" (spCosts (ga K "Web")) []) (F_lbridge : Cal P w K mg base 10 "_law_is_bridge" (spBridge (ga K "Web")) []) (F_Web_add : Met P w K mg base 6 (ga K "Web") "__add__" (spAddW (ga K "Web")) []) (F_Web_with_tie : Met P w K mg base 6 (ga K "Web") "with_tie" (spWithTie (ga K "Web")) []) {fd : FuncData} (FF : FunD K d_law.name d_law.qual (defArgs d_law.st) (defBody d_law.st) (defScope d_law.st) [] [] (d_law.adr K) fd) : FnOk P w K mg base CX0 11 (d_law.adr K) fd ["_law_script"] (spLaw K) := by
  refine FunD.ok0 FF sc_law (fun vs H Q E h => ?_) (fun cdv A outer s H vs Q E hr h => ?_)
  · obtain ⟨sp, _, rfl, _⟩ := h
    rfl
  have hu := hu_of hr
  refine ⟨_, (pss_cons (ps_set (i := 1) sc_law.nd rfl (Or.inl rfl) (pe_c F_lstream hr (by decide) rfl (pa_cons (pv 0) (pa_cons pe_int pa_nil))))
    (pss_cons (ps_set (i := 2) sc_law.nd rfl (Or.inl rfl) (pe_op op_add pe_int (pe_c F_ldraw hr (by decide) rfl (pa_cons (pv 1) (pa_cons pe_int pa_nil)))))
    (pss_cons (ps_set (i := 3) sc_law.nd rfl (Or.inl rfl) (pe_op op_add pe_int (pe_c F_ldraw hr (by decide) rfl (pa_cons (pv 1) (pa_cons pe_int pa_nil)))))
    (pss_cons (ps_set (i := 4) sc_law.nd rfl (Or.inl rfl) (pe_lst (pa_cons (pe_c F_ldraw hr (by decide) rfl (pa_cons (pv 1) (pa_cons pe_int pa_nil))) (pa_cons (pe_c F_ldraw hr (by decide) rfl (pa_cons (pv 1) (pa_cons pe_int pa_nil))) pa_nil))))
    (C8.pss_cut (ps_set (i := 5) sc_law.nd rfl (Or.inl rfl) (pe_c F_ldraw hr (by decide) rfl (pa_cons (pv 1) (pa_cons pe_int pa_nil))))
    (pss_cons (ps_set (i := 6) sc_law.nd rfl (Or.inl rfl) (pe_c F_lplaces hr (by decide) rfl (pa_cons (pe_c F_lstream hr (by decide) rfl (pa_cons (pv 0) (pa_cons pe_int pa_nil))) (pa_cons (pe_op op_add (pv 2) (pv 3)) pa_nil))))
    (C8.pss_cut (ps_set (i := 7) sc_law.nd rfl (Or.inl rfl) (pe_c F_lprices hr (by decide) rfl (pa_cons (pe_c F_lstream hr (by decide) rfl (pa_cons (pv 0) (pa_cons pe_int pa_nil))) (pa_cons (pv 6) (pa_cons (pv 5) pa_nil)))))
    (C8.pss_cut (ps_set (i := 8) sc_law.nd rfl (Or.inl rfl) (pe_c F_lstream hr (by decide) rfl (pa_cons (pv 0) (pa_cons pe_int pa_nil))))
    (C8.pss_cut (ps_set (i := 9) sc_law.nd rfl (Or.inl rfl) (pe_c F_lhalfweb hr (by decide) rfl (pa_cons (pv 8) (pa_cons (pe_slice sl_list (pv 6) po_none (po_some (pv 2))) (pa_cons (pe_ix ix_list (pv 4) pe_int (fun _ _ => rfl)) (pa_cons (pv 7) pa_nil))))))
    (C8.pss_cut (ps_set (i := 10) sc_law.nd rfl (Or.inl rfl) (pe_c F_lhalfweb hr (by decide) rfl (pa_cons (pv 8) (pa_cons (pe_slice sl_list (pv 6) (po_some (pv 2)) po_none) (pa_cons (pe_ix ix_list (pv 4) pe_int (fun _ _ => rfl)) (pa_cons (pv 7) pa_nil))))))
    (C8.pss_cut (ps_set (i := 11) sc_law.nd rfl (Or.inl rfl) (pe_c F_lstream hr (by decide) rfl (pa_cons (pv 0) (pa_cons pe_int pa_nil))))
    (C8.pss_cut (ps_set (i := 12) sc_law.nd rfl (Or.inl rfl) (pe_ix ix_list (pv 6) (pe_c F_ldraw hr (by decide) rfl (pa_cons (pv 11) (pa_cons (pv 2) pa_nil))) (fun _ _ => rfl)))
    (C8.pss_cut (ps_set (i := 13) sc_law.nd rfl (Or.inl rfl) (pe_ix ix_list (pv 6) (pe_op op_add (pv 2) (pe_c F_ldraw hr (by decide) rfl (pa_cons (pv 11) (pa_cons (pv 3) pa_nil)))) (fun _ _ => rfl)))
    (C8.pss_cut (ps_set (i := 14) sc_law.nd rfl (Or.inl rfl) (pe_c F_lcosts hr (by decide) rfl (pa_cons (pv 9) (pa_cons (pv 12) pa_nil))))
    (C8.pss_cut (ps_set (i := 15) sc_law.nd rfl (Or.inl rfl) (pe_c F_lcosts hr (by decide) rfl (pa_cons (pv 10) (pa_cons (pv 13) pa_nil))))
    (C8.pss_cut (ps_set (i := 16) sc_law.nd rfl (Or.inl rfl) (pe_op (op_addM F_Web_add T.self_Web hr (by decide)) (pv 9) (pv 10)))
    (C8.pss_cut (ps_set (i := 17) sc_law.nd rfl (Or.inl rfl) (pe_mt F_Web_with_tie hr (by decide) (pv 16) (pa_cons (pv 13) (pa_cons (pv 12) pa_nil))))
    (pss_cons (ps_if (PW.pt (pw_or (pt_not (pt_val (pe_c F_lbridge hr (by decide) rfl (pa_cons (pv 17) (pa_cons (pv 14) (pa_cons (pv 15) (pa_cons (pv 12) (pa_cons (pv 13) (pa_cons pe_int pa_nil))))))))) (pw_or1 (pt_not (pt_val (pe_c F_lbridge hr (by decide) rfl (pa_cons (pv 17) (pa_cons (pv 15) (pa_cons (pv 14) (pa_cons (pv 13) (pa_cons (pv 12) (pa_cons pe_int pa_nil)))))))))))) (pss_one (ps_ret pe_bl)) pss_nil)
    (pss_one (ps_ret (pe_and (pe_c F_lbridge hr (by decide) rfl (pa_cons (pv 16) (pa_cons (pv 14) (pa_cons (pv 15) (pa_cons (pv 12) (pa_cons (pv 13) (pa_cons pe_int pa_nil))))))) (pe_one (pe_c F_lbridge hr (by decide) rfl (pa_cons (pv 16) (pa_cons (pv 15) (pa_cons (pv 14) (pa_cons (pv 13) (pa_cons (pv 12) (pa_cons pe_int pa_nil))))))))))))))))))))))))))))), ?_⟩
  obtain ⟨sp, cells, rfl, hs, k⟩ := h
  -- first
  refine ⟨_, rfl, sp, cells, 0, rfl, hs, fun f c d hf => ?_⟩
  have S1 : StrAt H (upd H f (.lst [.int c, .int d])) f := ⟨Same.new hf, hf, c, d, upd_same⟩
  generalize upd H f (.lst [.int c, .int d]) = H1 at S1 ⊢
  obtain ⟨_, _, c, d, h1⟩ := id S1
  refine ⟨_, rfl, f, c, d, 14, rfl, h1, by decide, by decide, fun c d r1 g1 l1 => ⟨_, _, rfl, rfl, ?_⟩⟩
  have S2 := S1.put c d
  generalize upd H1 f (.lst [.int c, .int d]) = H2 at S2 ⊢
  obtain ⟨_, _, c, d, h2⟩ := id S2
  refine ⟨_, rfl, f, c, d, 14, rfl, h2, by decide, by decide, fun c d r2 g2 l2 => ⟨_, _, rfl, rfl, ?_⟩⟩
  have S3 := S2.put c d
  generalize upd H2 f (.lst [.int c, .int d]) = H3 at S3 ⊢
  obtain ⟨_, _, c, d, h3⟩ := id S3
  refine ⟨_, rfl, f, c, d, 25, rfl, h3, by decide, by decide, fun c d r3 g3 l3 => ?_⟩
  have S4 := S3.put c d
  generalize upd H3 f (.lst [.int c, .int d]) = H4 at S4 ⊢
  obtain ⟨_, _, c, d, h4⟩ := id S4
  refine ⟨_, rfl, f, c, d, 25, rfl, h4, by decide, by decide, fun c d r4 g4 l4 => ?_⟩
  have S5 := S4.put c d
  generalize upd H4 f (.lst [.int c, .int d]) = H5 at S5 ⊢
  refine ⟨by show 2 ≤ sizeLine; decide, fun dq hdq => ?_⟩
  have S6 := S5.grow (Same.new (o := .lst [.int r3, .int r4]) hdq)
  have hfd : dq ≠ f := by
    obtain ⟨_, _, c, d, h⟩ := S5
    exact Ne.symm (ne_of_none h hdq)
  have hd6 : upd H5 dq (.lst [.int r3, .int r4]) dq = some (.lst [.int r3, .int r4]) := upd_same
  generalize upd H5 dq (.lst [.int r3, .int r4]) = H6 at S6 hd6 ⊢
  obtain ⟨_, _, c, d, h6⟩ := id S6
  refine ⟨fun σ H' => ∃ (f dq : Addr) (kd i1 i2 i3 i4 : Int) (n1 n2 m3 m4 : Nat), σ = [some (.ref sp), some (.ref f), some (.int i1), some (.int i2), some (.ref dq), some (.int kd), none, none, none, none, none, none, none, none, none, none, none, none] ∧ Same H H' ∧ H' dq = some (.lst [.int i3, .int i4]) ∧ i1 = (n1 : Int) ∧ i2 = (n2 : Int) ∧ i3 = (m3 : Int) ∧ i4 = (m4 : Int) ∧ 1 ≤ n1 ∧ n1 ≤ 14 ∧ 1 ≤ n2 ∧ n2 ≤ 14 ∧ m3 ≤ 24 ∧ m4 ≤ 24, ?_, ?_⟩
  · refine ⟨_, rfl, f, c, d, 4, rfl, h6, by decide, by decide, fun c d kd g5 l5 => ?_⟩
    have S7 := S6.put c d
    have hd7 : upd H6 f (.lst [.int c, .int d]) dq = some (.lst [.int r3, .int r4]) := by rw [upd_ne hfd]; exact hd6
    exact ⟨f, dq, kd, 1 + r1, 1 + r2, r3, r4, (1 + r1).toNat, (1 + r2).toNat, r3.toNat, r4.toNat, rfl, S7.1, hd7, by omega, by omega, by omega, by omega, by omega, by omega, by omega, by omega, by omega, by omega⟩
  clear h1 h2 h3 h4 h6 hd6 hfd S1 S2 S3 S4 S5 S6 l1 l2 l3 l4 g1 g2 g3 g4
  rintro σ H7 ⟨f, dq, kd, _, _, _, _, n1, n2, m3, m4, rfl, s7, hd7, rfl, rfl, rfl, rfl, hn1, hn1', hn2, hn2', hm3, hm4⟩
  -- places
  refine ⟨_, rfl, sp, cells, 1, rfl, s7.seq hs, fun f2 c d hf2 => ?_⟩
  have S8 : StrAt H7 (upd H7 f2 (.lst [.int c, .int d])) f2 := ⟨Same.new hf2, hf2, c, d, upd_same⟩
  refine ⟨_, rfl, _, rfl, _, _, rfl, rfl, H7, f2, n1 + n2, ?_, S8, by omega, fun H8 pq names s8 hpq hlen hnd hok => ?_⟩
  · have e : (n1 : Int) + (n2 : Int) = ((n1 + n2 : Nat) : Int) := by omega
    exact congrArg (fun z => [V.ref f2, V.int z]) e
  have t8 := s7.trans s8
  have hd8 := s8 _ _ hd7
  clear S8
  -- prices
  refine ⟨fun σ H' => ∃ (pd : Addr) (pr : Str → Int), σ = [some (.ref sp), some (.ref f), some (.int (n1 : Int)), some (.int (n2 : Int)), some (.ref dq), some (.int kd), some (.ref pq), some (.ref pd), none, none, none, none, none, none, none, none, none, none] ∧ Same H8 H' ∧ H' pd = some (.dK (dS (prV pr) names)) ∧ ∀ a ∈ names, 1 ≤ pr a ∧ pr a ≤ maxPrice, ?_, ?_⟩
  · refine ⟨_, rfl, sp, cells, 2, rfl, t8.seq hs, fun f3 c d hf3 => ?_⟩
    have S9 : StrAt H8 (upd H8 f3 (.lst [.int c, .int d])) f3 := ⟨Same.new hf3, hf3, c, d, upd_same⟩
    refine ⟨_, rfl, _, rfl, H8, f3, pq, kd, names, rfl, S9, hpq, by omega, hnd, fun H9 pd pr s9 hpd hpr => ?_⟩
    exact ⟨pd, pr, rfl, s9, hpd, hpr⟩
  rintro σ H9 ⟨pd, pr, rfl, s9, hpd, hpr⟩
  have t9 := t8.trans s9
  have hpq9 := s9 _ _ hpq
  have hd9 := s9 _ _ hd8
  clear hpq hd8 hd7 s7 s8 t8
  have hn1n : n1 ≤ names.length := by omega
  -- stream_here
  refine ⟨fun σ H' => ∃ f4 : Addr, σ = [some (.ref sp), some (.ref f), some (.int (n1 : Int)), some (.int (n2 : Int)), some (.ref dq), some (.int kd), some (.ref pq), some (.ref pd), some (.ref f4), none, none, none, none, none, none, none, none, none] ∧ StrAt H9 H' f4, ?_, ?_⟩
  · refine ⟨_, rfl, sp, cells, 3, rfl, t9.seq hs, fun f4 c d hf4 => ?_⟩
    exact ⟨f4, rfl, Same.new hf4, hf4, c, d, upd_same⟩
  rintro σ H10 ⟨f4, rfl, S10⟩
  -- one
  refine ⟨fun σ H' => ∃ (w1 : Addr) (W1 : WebD Str), σ = [some (.ref sp), some (.ref f), some (.int (n1 : Int)), some (.int (n2 : Int)), some (.ref dq), some (.int kd), some (.ref pq), some (.ref pd), some (.ref f4), some (.ref w1), none, none, none, none, none, none, none, none] ∧ StrAt H9 H' f4 ∧ WebAt (ga K "Web") H' w1 W1 ∧ WebG W1 ∧ W1.N.Perm (names.take n1), ?_, ?_⟩
  · refine ⟨_, rfl, _, rfl, _, rfl, _, rfl, pq, _, rfl, SqL.of (S10.1 _ _ hpq9), fun q1 hq1 => ?_⟩
    rw [cut_take hn1n]
    have S11 := S10.grow (Same.new (o := .lst ((names.take n1).map vS)) hq1)
    have hq11 : upd H10 q1 (.lst ((names.take n1).map vS)) q1 = some (.lst ((names.take n1).map vS)) := upd_same
    generalize upd H10 q1 (.lst ((names.take n1).map vS)) = H11 at S11 hq11 ⊢
    obtain ⟨_, _, c, d, h11⟩ := id S11
    refine ⟨_, rfl, _, _, _, _, rfl, rfl, SqL.of (S11.1 _ _ hd9), rfl, _, rfl, ?_⟩
    refine ⟨rm H11 f4, f4, q1, pd, m3, names.take n1, names, pr, rfl, rm_at h11, rm_get hq11 (ne_strs h11 hq11), rm_get (S11.1 _ _ hpd) (ne_of (S11.1 _ _ hpd) h11 (by intro z; cases z)), fun a h => List.mem_of_mem_take h, hnd.sublist (List.take_sublist _ _), by rw [List.length_take]; omega, by rw [List.length_take]; omega, fun a h => hok a (List.mem_of_mem_take h), hpr, by omega, fun H12 w1 W1 S12' A1 G1 hp1 hpr1 => ?_⟩
    exact ⟨w1, W1, rfl, S11.over S12', A1, G1, hp1⟩
  rintro σ H12 ⟨w1, W1, rfl, S12, A1, G1, hp1⟩
  clear S10
  -- other
  refine ⟨fun σ H' => ∃ (w2 : Addr) (W2 : WebD Str), σ = [some (.ref sp), some (.ref f), some (.int (n1 : Int)), some (.int (n2 : Int)), some (.ref dq), some (.int kd), some (.ref pq), some (.ref pd), some (.ref f4), some (.ref w1), some (.ref w2), none, none, none, none, none, none, none] ∧ Same H9 H' ∧ WebAt (ga K "Web") H' w1 W1 ∧ WebAt (ga K "Web") H' w2 W2 ∧ WebG W2 ∧ W2.N.Perm (names.drop n1), ?_, ?_⟩
  · refine ⟨_, rfl, _, rfl, _, rfl, _, rfl, pq, _, rfl, SqL.of (S12.1 _ _ hpq9), fun q2 hq2 => ?_⟩
    rw [cut_drop hn1n]
    have S13 := S12.grow (Same.new (o := .lst ((names.drop n1).map vS)) hq2)
    have A13 := A1.same (Same.new (o := .lst ((names.drop n1).map vS)) hq2)
    have hq13 : upd H12 q2 (.lst ((names.drop n1).map vS)) q2 = some (.lst ((names.drop n1).map vS)) := upd_same
    generalize upd H12 q2 (.lst ((names.drop n1).map vS)) = H13 at S13 A13 hq13 ⊢
    obtain ⟨_, _, c, d, h13⟩ := id S13
    refine ⟨_, rfl, _, _, _, _, rfl, rfl, SqL.of (S13.1 _ _ hd9), rfl, _, rfl, ?_⟩
    refine ⟨rm H13 f4, f4, q2, pd, m4, names.drop n1, names, pr, rfl, rm_at h13, rm_get hq13 (ne_strs h13 hq13), rm_get (S13.1 _ _ hpd) (ne_of (S13.1 _ _ hpd) h13 (by intro z; cases z)), fun a h => List.mem_of_mem_drop h, hnd.sublist (List.drop_sublist _ _), by rw [List.length_drop]; omega, by rw [List.length_drop]; omega, fun a h => hok a (List.mem_of_mem_drop h), hpr, by omega, fun H14 w2 W2 S14' A2 G2 hp2 hpr2 => ?_⟩
    exact ⟨w2, W2, rfl, (S13.over S14').1, (A13.rm h13).same S14'.1, A2, G2, hp2⟩
  rintro σ H14 ⟨w2, W2, rfl, s14, A1', A2, G2, hp2⟩
  clear S12 A1
  have t14 := t9.trans s14
  have hpq14 := s14 _ _ hpq9
  clear hd9 hpq9 hpd hpr
  -- choice
  refine ⟨fun σ H' => ∃ f5 : Addr, σ = [some (.ref sp), some (.ref f), some (.int (n1 : Int)), some (.int (n2 : Int)), some (.ref dq), some (.int kd), some (.ref pq), some (.ref pd), some (.ref f4), some (.ref w1), some (.ref w2), some (.ref f5), none, none, none, none, none, none] ∧ StrAt H14 H' f5, ?_, ?_⟩
  · refine ⟨_, rfl, sp, cells, 4, rfl, t14.seq hs, fun f5 c d hf5 => ?_⟩
    exact ⟨f5, rfl, Same.new hf5, hf5, c, d, upd_same⟩
  rintro σ H15 ⟨f5, rfl, S15⟩
  -- a
  refine ⟨fun σ H' => ∃ (a : Str), σ = [some (.ref sp), some (.ref f), some (.int (n1 : Int)), some (.int (n2 : Int)), some (.ref dq), some (.int kd), some (.ref pq), some (.ref pd), some (.ref f4), some (.ref w1), some (.ref w2), some (.ref f5), some (.str a), none, none, none, none, none] ∧ StrAt H14 H' f5 ∧ a ∈ W1.N, ?_, ?_⟩
  · obtain ⟨_, _, c, d, h15⟩ := id S15
    refine ⟨_, rfl, _, rfl, _, rfl, f5, c, d, _, rfl, h15, by omega, by show (n1 : Int) ≤ 1000000000000000000000000000000; omega, fun c d ra ga la => ?_⟩
    have S16 := S15.put c d
    generalize upd H15 f5 (.lst [.int c, .int d]) = H16 at S16 ⊢
    obtain ⟨ia, rfl⟩ : ∃ ia : Nat, ra = (ia : Int) := ⟨ra.toNat, by omega⟩
    obtain ⟨a, ha⟩ : ∃ a, names[ia]? = some a := ⟨_, List.getElem?_eq_getElem (by omega)⟩
    have hta : atI (names.map vS) (ia : Int) = some (.str a) := atI_nat (by rw [List.getElem?_map, ha]; rfl)
    refine ⟨_, _, _, _, rfl, rfl, SqL.of (S16.1 _ _ hpq14), hta, ?_⟩
    exact ⟨a, rfl, S16, hp1.mem_iff.mpr (List.mem_of_getElem? (i := ia) (by rw [List.getElem?_take_of_lt (by omega)]; exact ha))⟩
  rintro σ H16 ⟨a, rfl, S16, haW⟩
  clear S15
  -- b
  refine ⟨fun σ H' => ∃ (b : Str), σ = [some (.ref sp), some (.ref f), some (.int (n1 : Int)), some (.int (n2 : Int)), some (.ref dq), some (.int kd), some (.ref pq), some (.ref pd), some (.ref f4), some (.ref w1), some (.ref w2), some (.ref f5), some (.str a), some (.str b), none, none, none, none] ∧ Same H14 H' ∧ b ∈ W2.N, ?_, ?_⟩
  · obtain ⟨_, _, c, d, h16⟩ := id S16
    refine ⟨_, rfl, _, rfl, _, rfl, _, rfl, f5, c, d, _, rfl, h16, by omega, by show (n2 : Int) ≤ 1000000000000000000000000000000; omega, fun c d rb gb lb => ?_⟩
    have S17 := S16.put c d
    generalize upd H16 f5 (.lst [.int c, .int d]) = H17 at S17 ⊢
    obtain ⟨ib, rfl⟩ : ∃ ib : Nat, rb = (ib : Int) := ⟨rb.toNat, by omega⟩
    obtain ⟨b, hb⟩ : ∃ b, names[n1 + ib]? = some b := ⟨_, List.getElem?_eq_getElem (by omega)⟩
    have htb : atI (names.map vS) ((n1 : Int) + (ib : Int)) = some (.str b) := by
      rw [show (n1 : Int) + (ib : Int) = ((n1 + ib : Nat) : Int) by omega]
      exact atI_nat (by rw [List.getElem?_map, hb]; rfl)
    refine ⟨_, _, rfl, rfl, _, _, _, _, rfl, rfl, SqL.of (S17.1 _ _ hpq14), htb, ?_⟩
    exact ⟨b, rfl, S17.1, hp2.mem_iff.mpr (List.mem_of_getElem? (i := ib) (by rw [List.getElem?_drop]; exact hb))⟩
  rintro σ H17 ⟨b, rfl, s17, hbW⟩
  clear S16
  have t17 := t14.trans s17
  have hdis : ∀ x ∈ W1.N, x ∉ W2.N := fun x h1 h2 => by
    have e1 := hp1.mem_iff.mp h1
    have e2 := hp2.mem_iff.mp h2
    have hn := hnd
    rw [← List.take_append_drop n1 names] at hn
    exact (List.nodup_append.mp hn).2.2 x e1 x e2 rfl
  have hl1 : W1.N.length ≤ 14 := by rw [hp1.length_eq, List.length_take]; omega
  have hl2 : W2.N.length ≤ 14 := by rw [hp2.length_eq, List.length_drop]; omega
  have ht1 : (tiesOf W1).length ≤ 91 := by
    have e1 := tiesOf_le G1.sorted
    have e2 : W1.N.length * (W1.N.length - 1) ≤ 14 * 13 := Nat.mul_le_mul hl1 (by omega)
    omega
  have ht2 : (tiesOf W2).length ≤ 91 := by
    have e1 := tiesOf_le G2.sorted
    have e2 : W2.N.length * (W2.N.length - 1) ≤ 14 * 13 := Nat.mul_le_mul hl2 (by omega)
    omega
  clear hp1 hp2 hnd hok hpq14
  -- left
  refine ⟨fun σ H' => ∃ (lq : Addr) (u : Int → Int), σ = [some (.ref sp), some (.ref f), some (.int (n1 : Int)), some (.int (n2 : Int)), some (.ref dq), some (.int kd), some (.ref pq), some (.ref pd), some (.ref f4), some (.ref w1), some (.ref w2), some (.ref f5), some (.str a), some (.str b), some (.ref lq), none, none, none] ∧ Same H17 H' ∧ H' lq = some (.lst (lmap 3 fun i => V.int (u (i : Int)))) ∧ Costs W1 a u, ?_, ?_⟩
  · refine ⟨_, rfl, _, rfl, w1, a, W1, rfl, A1'.same s17, G1, haW, fun H18 lq u s18 hlq hu => ?_⟩
    exact ⟨lq, u, rfl, s18, hlq, hu⟩
  rintro σ H18 ⟨lq, u, rfl, s18, hlq, hu⟩
  have u18 := s17.trans s18
  -- right
  refine ⟨fun σ H' => ∃ (rq : Addr) (w' : Int → Int), σ = [some (.ref sp), some (.ref f), some (.int (n1 : Int)), some (.int (n2 : Int)), some (.ref dq), some (.int kd), some (.ref pq), some (.ref pd), some (.ref f4), some (.ref w1), some (.ref w2), some (.ref f5), some (.str a), some (.str b), some (.ref lq), some (.ref rq), none, none] ∧ Same H18 H' ∧ H' rq = some (.lst (lmap 3 fun i => V.int (w' (i : Int)))) ∧ Costs W2 b w', ?_, ?_⟩
  · refine ⟨_, rfl, _, rfl, w2, b, W2, rfl, A2.same u18, G2, hbW, fun H19 rq w' s19 hrq hw => ?_⟩
    exact ⟨rq, w', rfl, s19, hrq, hw⟩
  rintro σ H19 ⟨rq, w', rfl, s19, hrq, hw⟩
  have u19 := u18.trans s19
  obtain ⟨x1, y1, z1, la1, i1, _⟩ := (A1'.same u19).ex
  obtain ⟨x2, y2, z2, la2, i2, _⟩ := (A2.same u19).ex
  -- apart
  refine ⟨fun σ H' => ∃ (ap : Addr) (W : WebD Str), σ = [some (.ref sp), some (.ref f), some (.int (n1 : Int)), some (.int (n2 : Int)), some (.ref dq), some (.int kd), some (.ref pq), some (.ref pd), some (.ref f4), some (.ref w1), some (.ref w2), some (.ref f5), some (.str a), some (.str b), some (.ref lq), some (.ref rq), some (.ref ap), none] ∧ Same H19 H' ∧ JoinW W1 W2 W ∧ WebG W ∧ WebAt (ga K "Web") H' ap W, ?_, ?_⟩
  · refine ⟨_, rfl, _, rfl, w1, x1, _, w2, x2, _, rfl, rfl, i1, i2, w1, w2, W1, W2, rfl, A1'.same u19, A2.same u19, G1, G2, hdis, by omega, by omega, fun H20 ap W s20 JW GW AW => ⟨⟨ap, rfl⟩, ?_⟩⟩
    exact ⟨ap, W, rfl, s20, JW, GW, AW⟩
  rintro σ H20 ⟨ap, W, rfl, s20, JW, GW, AW⟩
  have J0 := joined0 G1 G2 hdis JW haW hbW
  obtain ⟨x3, y3, z3, la3, i3, _⟩ := AW.ex
  have hbN : b ∈ W.N := J0.mem.mpr (.inr hbW)
  have haN : a ∈ W.N := J0.mem.mpr (.inl haW)
  have hba : b ≠ a := fun e => hdis a haW (e ▸ hbW)
  have hadj : W.adj b a = false := by
    rw [GW.ok.symm, J0.cross a haW b hbW]
    rfl
  -- tied
  refine ⟨fun σ H' => ∃ (tp : Addr) (W' : WebD Str), σ = [some (.ref sp), some (.ref f), some (.int (n1 : Int)), some (.int (n2 : Int)), some (.ref dq), some (.int kd), some (.ref pq), some (.ref pd), some (.ref f4), some (.ref w1), some (.ref w2), some (.ref f5), some (.str a), some (.str b), some (.ref lq), some (.ref rq), some (.ref ap), some (.ref tp)] ∧ Same H20 H' ∧ TieW W b a W' ∧ WebG W' ∧ WebAt (ga K "Web") H' tp W', ?_, ?_⟩
  · refine ⟨_, rfl, ap, x3, _, rfl, i3, rfl, _, rfl, _, rfl, ap, b, a, W, rfl, AW, GW, hbN, haN, hba, hadj, fun H21 tp W' s21 TW GT AT => ?_⟩
    exact ⟨tp, W', rfl, s21, TW, GT, AT⟩
  rintro σ H21 ⟨tp, W', rfl, s21, TW, GT, AT⟩
  have J2 := joined2 J0 TW
  have hlq21 := (s19.trans (s20.trans s21)) _ _ hlq
  have hrq21 := (s20.trans s21) _ _ hrq
  have AW21 := AW.same s21
  have t21 := ((t17.trans (s18.trans s19)).trans s20).trans s21
  -- the four bridges
  refine ⟨_, rfl, _, rfl, _, rfl, _, rfl, _, rfl, tp, lq, rq, a, b, 2, W', W1, W2, u, w', rfl, AT, GT, hlq21, hrq21, J2, hu, hw, fun H22 s22 => ?_⟩
  refine ⟨_, rfl, iteF ?_⟩
  refine ⟨_, rfl, _, rfl, _, rfl, _, rfl, _, rfl, tp, rq, lq, b, a, 2, W', W2, W1, w', u, rfl, AT.same s22, GT, s22 _ _ hrq21, s22 _ _ hlq21, J2.swap GT.ok, hw, hu, fun H23 s23 => ?_⟩
  refine ⟨_, rfl, iteF ?_⟩
  have s23' := s22.trans s23
  refine ⟨_, rfl, _, rfl, _, rfl, _, rfl, _, rfl, ap, lq, rq, a, b, 0, W, W1, W2, u, w', rfl, AW21.same s23', GW, s23' _ _ hlq21, s23' _ _ hrq21, J0, hu, hw, fun H24 s24 => ?_⟩
  refine ⟨_, rfl, iteT ?_⟩
  have s24' := s23'.trans s24
  refine ⟨_, rfl, _, rfl, _, rfl, _, rfl, _, rfl, ap, rq, lq, b, a, 0, W, W2, W1, w', u, rfl, AW21.same s24', GW, s24' _ _ hrq21, s24' _ _ hlq21, J0.swap GW.ok, hw, hu, fun H25 s25 => ?_⟩
  exact k _ (t21.trans (s24'.trans s25))
end HW

set_option Elab.async false
set_option linter.all false
set_option maxRecDepth 100000
set_option maxHeartbeats 0
namespace HW
open PySem PySem.Spec PyProof.Rows L2 He
theorem law_ok {P : Program} {w : World} {K : PySem.W.Frag} {mg : Str → Option Value} {base : Heap} (T : Txt K mg) {fd : FuncData} (FF : FunD K d_law.name d_law.qual (defArgs d_law.st) (defBody d_law.st) (defScope d_law.st) [] [] (d_law.adr K) fd) : FnOk P w K mg base CX0 11 (d_law.adr K) fd ["_law_script"] (spLaw K) := by
  have F_is_integer := ok_is_integer (P := P) (w := w) (base := base) T
  have F_is_price := ok_is_price (P := P) (w := w) (base := base) T F_is_integer
  have F_is_value := ok_is_value (P := P) (w := w) (base := base) T F_is_integer
  have F_lisint := ok_lisint (P := P) (w := w) (base := base) T
  have F_pair_of := ok_pair_of (P := P) (w := w) (base := base) T
  have F_is_name := ok_is_name (P := P) (w := w) (base := base) T
  have F_Net_join_nodes := ok_Net_join_nodes (P := P) (w := w) (base := base) T
  have F_Net_shortest_path := ok_Net_shortest_path (P := P) (w := w) (base := base) T
  have F_Net_push_once := ok_Net_push_once (P := P) (w := w) (base := base) T F_Net_shortest_path
  have F_Net_closure := ok_Net_closure (P := P) (w := w) (base := base) T
  have K_Net := ok_Net_init (P := P) (w := w) (base := base) T F_Net_join_nodes F_Net_push_once
  have F_may_be := ok_may_be (P := P) (w := w) (base := base) T F_Net_closure
  have F_check_places := ok_check_places (P := P) (w := w) (base := base) T F_is_name
  have F_is_tie := ok_is_tie (P := P) (w := w) (base := base) T
  have F_check_ties := ok_check_ties (P := P) (w := w) (base := base) T F_is_tie F_pair_of
  have F_check_prices := ok_check_prices (P := P) (w := w) (base := base) T F_is_price
  have F_partners := ok_partners (P := P) (w := w) (base := base) T
  have K_Web := ok_Web_init (P := P) (w := w) (base := base) T F_check_places F_check_ties F_check_prices F_partners
  have F_Web_contains := ok_Web_contains (P := P) (w := w) (base := base) T
  have F_Web_known := ok_Web_known (P := P) (w := w) (base := base) T
  have F_Web_price := ok_Web_price (P := P) (w := w) (base := base) T F_Web_known
  have F_Web_near := ok_Web_near (P := P) (w := w) (base := base) T F_Web_known
  have F_Web_places := ok_Web_places (P := P) (w := w) (base := base) T
  have F_Web_ties := ok_Web_ties (P := P) (w := w) (base := base) T
  have F_Web_add := ok_Web_add (P := P) (w := w) (base := base) T K_Web F_Web_ties
  have F_Web_with_tie := ok_Web_with_tie (P := P) (w := w) (base := base) T K_Web F_Web_ties F_Web_known
  have F_net_of := ok_net_of (P := P) (w := w) (base := base) T K_Net F_Web_ties F_Web_places F_Web_price
  have F_worth := ok_worth (P := P) (w := w) (base := base) T F_net_of
  have F_can := ok_can (P := P) (w := w) (base := base) T F_net_of F_is_value F_may_be F_Web_places F_Web_contains
  have F_check_kept := ok_check_kept (P := P) (w := w) (base := base) T F_is_value F_Web_contains
  have F_rest_of := ok_rest_of (P := P) (w := w) (base := base) T K_Net F_Web_ties F_Web_near F_Web_price
  have F_forced := ok_forced (P := P) (w := w) (base := base) T F_check_kept F_rest_of F_Web_ties F_Web_near F_Web_price F_Web_places
  have K_Curve := ok_Curve_init (P := P) (w := w) (base := base) T F_forced F_Web_price F_Web_contains
  have F_Curve_none := ok_Curve_none (P := P) (w := w) (base := base) T
  have F_Curve_half := ok_Curve_half (P := P) (w := w) (base := base) T
  have F_Curve_both := ok_Curve_both (P := P) (w := w) (base := base) T
  have F_Curve_sums := ok_Curve_sums (P := P) (w := w) (base := base) T F_is_price
  have F_Curve_call := ok_Curve_call (P := P) (w := w) (base := base) T F_Curve_sums
  have F_lstream := ok_lstream (P := P) (w := w) (base := base) T
  have F_ldraw := ok_ldraw (P := P) (w := w) (base := base) T
  have F_lname := ok_lname (P := P) (w := w) (base := base) T F_ldraw
  have F_lplaces := ok_lplaces (P := P) (w := w) (base := base) T F_lname
  have F_lprices := ok_lprices (P := P) (w := w) (base := base) T F_ldraw
  have F_lhalfweb := ok_lhalfweb (P := P) (w := w) (base := base) T K_Web F_ldraw
  have F_lcosts := ok_lcosts (P := P) (w := w) (base := base) T K_Curve F_Web_price F_Curve_none F_Curve_half F_Curve_both
  have F_lbridge := ok_lbridge (P := P) (w := w) (base := base) T K_Curve F_Web_price F_Web_contains F_Curve_none F_Curve_half F_Curve_both F_Curve_call F_worth F_can F_lisint
  exact ok_law T F_lstream F_ldraw F_lplaces F_lprices F_lhalfweb F_lcosts F_lbridge F_Web_add F_Web_with_tie FF
theorem facts {P : Program} {w : World} {K : PySem.W.Frag} {h : Heap} {mg : Str → Option Value} {f : Addr} (X : K.In h) (Gm : h.Ns mainGlobals mg) (hf : mg ("law" : Str) = some (.ref f)) (c : SaysH (fa ++ faG) fnH exB K) :
    ∃ fd : FuncData, (∀ (s : Shared) (v : Value), BindsTo s fd ⟨[v], []⟩ [("_law_script", v)]) ∧ ∀ base : Heap, K.In base → base.Ns mainGlobals mg → FnOk P w K mg base CX0 11 f fd ["_law_script"] (spLaw K) := by
  have T : Txt K mg := ⟨c, h, X, Gm⟩
  obtain ⟨fd, FF⟩ := T.says.def_ 43 (d := d_law) rfl
  have e := hf.symm.trans T.g_law
  cases e
  have b := FunD.bindsA (ps := ["_law_script"]) FF fun _ _ _ _ _ _ us hl => match us, hl with | [_], _ => rfl
  exact ⟨fd, fun s v => b s [v] rfl, fun _ _ _ => law_ok T FF⟩
end HW
open PySem PySem.W PySem.Calls PyProof.Rows
theorem PySem.Challenge.cw_halfpicked_k82_whole_bridges_holds : PySem.Challenge.rw_halfpicked_k82_whole_bridges.Holds := by
  w_on; o_law
  refine HandSHeadRun.head_any (r := OpenLaw.row PySem.Challenge.rw_halfpicked_k82_whole_bridges) (q := view (OpenLaw.row PySem.Challenge.rw_halfpicked_k82_whole_bridges).prog [55]) (H := HW.hk) (ob := HW.ob) (M := 6000) (loose := HW.looseAll) (d := HandSHeadRun.topDef (OpenLaw.row PySem.Challenge.rw_halfpicked_k82_whole_bridges).prog 55) (kwd := []) HW.ob_eq
    (by kernel_rfl) (fun s => by kernel_rfl) HW.run (by kernel_rfl) (by kernel_rfl) (by kernel_rfl) (by rfl) (by first | assumption | decide +kernel) (by decide +kernel) ⟨rfl, rfl, rfl, rfl, rfl, by decide +kernel⟩ ?hw ?hc
  case hw => w_witness2
  case hc =>
    refine L2.walk_ofE (l := PySem.Challenge.rw_halfpicked_k82_whole_bridges) (n := 63) (k := 11) (x := "_law_script") (CX := L2.CX0) rfl (by decide) (by kernel_rfl) ⟨rfl, by decide, by decide⟩ ?F (fun _ _ _ _ z => z)
    intro w mg fa h Y G hmg0
    obtain ⟨K, KX, c⟩ := Y
    have hmg : mg ("law" : PySem.Str) = some (.ref fa) := by
      have e : (HandSHeadRun.topDef (OpenLaw.row PySem.Challenge.rw_halfpicked_k82_whole_bridges).prog 55).name = ("law" : PySem.Str) := by kernel_rfl
      rw [← e]
      exact hmg0
    obtain ⟨fd, hb, hF⟩ := HW.facts (P := (PySem.Challenge.rw_halfpicked_k82_whole_bridges).prog) (w := w) KX G hmg c
    exact ⟨K, fd, HW.spLaw K, KX, hb, fun H a ns hl _ hS => ⟨a, ns, rfl, hS, fun _ _ => rfl⟩, hF⟩
