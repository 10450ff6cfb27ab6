import PyProof.Rows.All
import Wide.All
import OpenK.AllK
import Wide.FinOn
import HandS.ForMost
import HandS.Walk
import KE.GoesEnum
import HandS.Deep
import HandS.SortOrd
import HandS.SortRule
import KE.LtData
import HandS.Codes
import HandS.IsInst
import PySem.Challenge.RW_duskbook_k11_whole_exchanged_alike
set_option Elab.async false
set_option maxRecDepth 100000
set_option maxHeartbeats 4000000
namespace Ka
/-! ## Books and evenings as plain data -/
inductive Kd where
  | e | s | f | n
  deriving DecidableEq
def Kd.x : Kd → Kd
  | .e => .e | .s => .s | .f => .n | .n => .f
def Kd.way : Kd → Bool
  | .f => true | _ => false
inductive Rl where
  | e (ss : List (Nat × Bool))
  | s (bs : List Nat) (odd : Bool)
  | f (bs : List Nat) (hd : Option Nat)

def bitAt (ev : List Bool) (b : Nat) : Bool := ev.getD b false
theorem bitAt_get {ev : List Bool} {b : Nat} (h : b < ev.length) : ev[b]? = some (bitAt ev b) := by
  unfold bitAt
  rw [List.getD_eq_getElem?_getD, List.getElem?_eq_getElem h]
  rfl
theorem bitAt_not {ev : List Bool} {b : Nat} (h : b < ev.length) : bitAt (ev.map (!·)) b = !bitAt ev b := by
  have h1 := bitAt_get h
  have h2 : (ev.map (!·))[b]? = some (!bitAt ev b) := by rw [List.getElem?_map, h1]; rfl
  have h3 := bitAt_get (ev := ev.map (!·)) (b := b) (by rw [List.length_map]; exact h)
  exact Option.some.inj (h3.symm.trans h2)

/-- a rule of the kind, of beacons below m -/
def okR : Kd → Nat → Rl → Prop
  | .e, m, .e ss => ss.length ≤ 2 ∧ ∀ p ∈ ss, p.1 < m
  | .s, m, .s bs _ => bs.length ≤ 6 ∧ bs.Nodup ∧ ∀ b ∈ bs, b < m
  | .f, m, .f bs hd => bs.length ≤ 6 ∧ (∀ b ∈ bs, b < m) ∧ ∀ x, hd = some x → x < m
  | .n, m, .f bs hd => bs.length ≤ 6 ∧ (∀ b ∈ bs, b < m) ∧ ∀ x, hd = some x → x < m
  | _, _, _ => False

def headHolds (way : Bool) (ev : List Bool) : Option Nat → Bool
  | none => false
  | some x => bitAt ev x == way
def holdsR (k : Kd) (ev : List Bool) : Rl → Bool
  | .e ss => ss.any fun p => bitAt ev p.1 == p.2
  | .s bs odd => decide ((bs.filter (bitAt ev)).length % 2 = 1) == odd
  | .f bs hd => (bs.any fun b => bitAt ev b != k.way) || headHolds k.way ev hd

/-- rising, of at most two sayings -/
def ltS (p q : Nat × Bool) : Bool := if p.1 = q.1 then (!p.2 && q.2) else decide (p.1 < q.1)
def sort2 : List (Nat × Bool) → List (Nat × Bool)
  | [p, q] => if ltS q p then [q, p] else [p, q]
  | l => l
def flip (p : Nat × Bool) : Nat × Bool := (p.1, !p.2)
def xR : Rl → Rl
  | .e ss => .e (sort2 (ss.map flip))
  | .s bs odd => .s bs (odd != decide (bs.length % 2 = 1))
  | .f bs hd => .f bs hd

def leftE (b : Nat) (l : Bool) (ss : List (Nat × Bool)) : Option Rl :=
  if (b, l) ∈ ss then none else some (.e (ss.filter fun p => p.1 != b))
def leftS (b : Nat) (l : Bool) (bs : List Nat) (odd : Bool) : Option Rl :=
  if b ∈ bs then
    if (bs.filter fun a => a != b) = [] ∧ (odd != l) = false then none else some (.s (bs.filter fun a => a != b) (odd != l))
  else some (.s bs odd)
def leftF (b : Nat) (so : Bool) (bs : List Nat) (hd : Option Nat) : Option Rl :=
  if (hd = some b ∧ so = true) ∨ (b ∈ bs ∧ so = false) then none
  else some (.f (bs.filter fun a => a != b) (if hd = some b then none else hd))
def leftR (k : Kd) (b : Nat) (l : Bool) : Rl → Option Rl
  | .e ss => leftE b l ss
  | .s bs odd => leftS b l bs odd
  | .f bs hd => leftF b (l == k.way) bs hd

/-! ## Exchanged rules hold alike -/
theorem parity_split : ∀ (bs : List Nat) (p : Nat → Bool), (bs.filter p).length + (bs.filter fun b => !p b).length = bs.length
  | [], _ => rfl
  | b :: bs, p => by
    have ih := parity_split bs p
    rw [List.filter_cons, List.filter_cons]
    cases h : p b
    · simp only [Bool.false_eq_true, if_false, Bool.not_false, if_true, List.length_cons]
      omega
    · simp only [if_true, Bool.not_true, Bool.false_eq_true, if_false, List.length_cons]
      omega
theorem par_bool {a c n : Nat} (h : a + c = n) (odd : Bool) : (decide (c % 2 = 1) == (odd != decide (n % 2 = 1))) = (decide (a % 2 = 1) == odd) := by
  have ha : a % 2 = 0 ∨ a % 2 = 1 := by omega
  have hc : c % 2 = 0 ∨ c % 2 = 1 := by omega
  rcases ha with ha | ha <;> rcases hc with hc | hc
  · have hn : n % 2 = 0 := by omega
    rw [ha, hc, hn]; cases odd <;> decide
  · have hn : n % 2 = 1 := by omega
    rw [ha, hc, hn]; cases odd <;> decide
  · have hn : n % 2 = 1 := by omega
    rw [ha, hc, hn]; cases odd <;> decide
  · have hn : n % 2 = 0 := by omega
    rw [ha, hc, hn]; cases odd <;> decide
theorem any_sort2 (l : List (Nat × Bool)) (p : Nat × Bool → Bool) : (sort2 l).any p = l.any p := by
  match l with
  | [] => rfl
  | [_] => rfl
  | [a, b] =>
    show (if ltS b a then [b, a] else [a, b]).any p = [a, b].any p
    split
    · simp only [List.any_cons, List.any_nil, Bool.or_false]
      exact Bool.or_comm _ _
    · rfl
  | _ :: _ :: _ :: _ => rfl
theorem any_congr' {α : Type} : ∀ {l : List α} {p q : α → Bool}, (∀ x ∈ l, p x = q x) → l.any p = l.any q
  | [], _, _, _ => rfl
  | x :: l, p, q, h => by
    rw [List.any_cons, List.any_cons, h x List.mem_cons_self, any_congr' fun y hy => h y (List.mem_cons_of_mem _ hy)]
theorem filter_congr' {α : Type} : ∀ {l : List α} {p q : α → Bool}, (∀ x ∈ l, p x = q x) → l.filter p = l.filter q
  | [], _, _, _ => rfl
  | x :: l, p, q, h => by
    rw [List.filter_cons, List.filter_cons, h x List.mem_cons_self, filter_congr' fun y hy => h y (List.mem_cons_of_mem _ hy)]
theorem way_x {k : Kd} (h : k = .f ∨ k = .n) : k.x.way = !k.way := by
  rcases h with h | h <;> subst h <;> rfl
theorem holds_f {k k' : Kd} (hw : k'.way = !k.way) {ev : List Bool} {bs : List Nat} {hd : Option Nat} (hb : ∀ b ∈ bs, b < ev.length) (hh : ∀ x, hd = some x → x < ev.length) :
    holdsR k' (ev.map (!·)) (.f bs hd) = holdsR k ev (.f bs hd) := by
  show ((bs.any fun b => bitAt (ev.map (!·)) b != k'.way) || headHolds k'.way (ev.map (!·)) hd) = ((bs.any fun b => bitAt ev b != k.way) || headHolds k.way ev hd)
  have h1 : (bs.any fun b => bitAt (ev.map (!·)) b != k'.way) = (bs.any fun b => bitAt ev b != k.way) := any_congr' fun b hm => by
    rw [bitAt_not (hb b hm), hw]
    cases bitAt ev b <;> cases k.way <;> rfl
  have h2 : headHolds k'.way (ev.map (!·)) hd = headHolds k.way ev hd := by
    cases hd with
    | none => rfl
    | some x =>
      show (bitAt (ev.map (!·)) x == k'.way) = (bitAt ev x == k.way)
      rw [bitAt_not (hh x rfl), hw]
      cases bitAt ev x <;> cases k.way <;> rfl
  rw [h1, h2]
theorem holds_x : ∀ {k : Kd} {ev : List Bool} {r : Rl}, okR k ev.length r → holdsR k.x (ev.map (!·)) (xR r) = holdsR k ev r
  | .e, ev, .e ss, h => by
    show (sort2 (ss.map flip)).any _ = ss.any _
    rw [any_sort2, List.any_map]
    refine any_congr' fun p hp => ?_
    show (bitAt (ev.map (!·)) p.1 == !p.2) = (bitAt ev p.1 == p.2)
    rw [bitAt_not (h.2 p hp)]
    cases bitAt ev p.1 <;> cases p.2 <;> rfl
  | .s, ev, .s bs odd, h => by
    show (decide ((bs.filter (bitAt (ev.map (!·)))).length % 2 = 1) == (odd != decide (bs.length % 2 = 1))) = (decide ((bs.filter (bitAt ev)).length % 2 = 1) == odd)
    have e : bs.filter (bitAt (ev.map (!·))) = bs.filter fun b => !bitAt ev b := filter_congr' fun b hb => bitAt_not (h.2.2 b hb)
    rw [e]
    exact par_bool (parity_split bs (bitAt ev)) odd
  | .f, ev, .f bs hd, h => holds_f (k := .f) (k' := .n) rfl h.2.1 h.2.2
  | .n, ev, .f bs hd, h => holds_f (k := .n) (k' := .f) rfl h.2.1 h.2.2
  | .e, _, .s _ _, h => h.elim
  | .e, _, .f _ _, h => h.elim
  | .s, _, .e _, h => h.elim
  | .s, _, .f _ _, h => h.elim
  | .f, _, .e _, h => h.elim
  | .f, _, .s _ _, h => h.elim
  | .n, _, .e _, h => h.elim
  | .n, _, .s _ _, h => h.elim

/-! ## .. and what is left of them -/
theorem sort2_length (l : List (Nat × Bool)) : (sort2 l).length = l.length := by
  match l with
  | [] => rfl
  | [_] => rfl
  | [a, b] =>
    show (if ltS b a then [b, a] else [a, b]).length = 2
    split <;> rfl
  | _ :: _ :: _ :: _ => rfl
theorem mem_sort2 {l : List (Nat × Bool)} {x : Nat × Bool} : x ∈ sort2 l ↔ x ∈ l := by
  match l with
  | [] => exact Iff.rfl
  | [_] => exact Iff.rfl
  | [a, b] =>
    show x ∈ (if ltS b a then [b, a] else [a, b]) ↔ x ∈ [a, b]
    split
    · simp only [List.mem_cons, List.not_mem_nil, or_false]
      exact or_comm
    · exact Iff.rfl
  | _ :: _ :: _ :: _ => exact Iff.rfl
theorem filter_sort2 (p : Nat × Bool → Bool) {l : List (Nat × Bool)} (h : l.length ≤ 2) : (sort2 l).filter p = sort2 (l.filter p) := by
  match l, h with
  | [], _ => rfl
  | [a], _ =>
    show [a].filter p = sort2 ([a].filter p)
    rw [List.filter_cons]
    split <;> rfl
  | [a, b], _ =>
    show (if ltS b a then [b, a] else [a, b]).filter p = sort2 ([a, b].filter p)
    cases ha : p a <;> cases hb : p b <;> cases hl : ltS b a <;> simp [ha, hb, hl, sort2]
  | _ :: _ :: _ :: _, h => simp at h
theorem flip_flip (p : Nat × Bool) : flip (flip p) = p := by
  obtain ⟨a, b⟩ := p
  show (a, !!b) = (a, b)
  rw [Bool.not_not]
theorem mem_flip {ss : List (Nat × Bool)} {b : Nat} {l : Bool} : (b, !l) ∈ ss.map flip ↔ (b, l) ∈ ss := by
  constructor
  · intro h
    obtain ⟨p, hp, e⟩ := List.mem_map.mp h
    have e2 : p = flip (b, !l) := by rw [← e, flip_flip]
    have e3 : flip (b, !l) = (b, l) := flip_flip (b, l)
    rw [e2, e3] at hp
    exact hp
  · intro h
    exact List.mem_map.mpr ⟨(b, l), h, rfl⟩
theorem leftE_x {b : Nat} {l : Bool} {ss : List (Nat × Bool)} (h : ss.length ≤ 2) : leftE b (!l) (sort2 (ss.map flip)) = (leftE b l ss).map xR := by
  unfold leftE
  by_cases hm : (b, l) ∈ ss
  · rw [if_pos hm, if_pos (mem_sort2.mpr (mem_flip.mpr hm))]
    rfl
  · rw [if_neg hm, if_neg (fun q => hm (mem_flip.mp (mem_sort2.mp q)))]
    show some (Rl.e _) = some (Rl.e _)
    rw [filter_sort2 _ (by rw [List.length_map]; exact h), List.filter_map]
    rfl
theorem filter_ne_length {b : Nat} : ∀ {bs : List Nat}, bs.Nodup → b ∈ bs → (bs.filter fun a => a != b).length + 1 = bs.length
  | [], _, h => nomatch h
  | a :: bs, hn, h => by
    have hn' := List.nodup_cons.mp hn
    by_cases e : a = b
    · subst e
      have e1 : bs.filter (fun c => c != a) = bs := List.filter_eq_self.mpr fun c hc => by
        have : c ≠ a := fun q => hn'.1 (q ▸ hc)
        exact bne_iff_ne.mpr this
      rw [List.filter_cons_of_neg (by simp), e1]
      rfl
    · have hb : b ∈ bs := by
        rcases List.mem_cons.mp h with q | q
        · exact absurd q.symm e
        · exact q
      rw [List.filter_cons_of_pos (by exact bne_iff_ne.mpr e), List.length_cons, List.length_cons]
      have := filter_ne_length hn'.2 hb
      omega
theorem par_less {m n : Nat} (h : m + 1 = n) (odd l : Bool) : ((odd != decide (n % 2 = 1)) != !l) = ((odd != l) != decide (m % 2 = 1)) := by
  have hm : m % 2 = 0 ∨ m % 2 = 1 := by omega
  rcases hm with hm | hm
  · have hn : n % 2 = 1 := by omega
    rw [hm, hn]; cases odd <;> cases l <;> decide
  · have hn : n % 2 = 0 := by omega
    rw [hm, hn]; cases odd <;> cases l <;> decide
theorem leftS_x {b : Nat} {l : Bool} {bs : List Nat} {odd : Bool} (hn : bs.Nodup) : leftS b (!l) bs (odd != decide (bs.length % 2 = 1)) = (leftS b l bs odd).map xR := by
  unfold leftS
  by_cases hm : b ∈ bs
  · rw [if_pos hm, if_pos hm, par_less (filter_ne_length hn hm) odd l]
    by_cases he : (bs.filter fun a => a != b) = []
    · rw [he]
      have e0 : ((odd != l) != decide (([] : List Nat).length % 2 = 1)) = (odd != l) := by cases odd <;> cases l <;> decide
      rw [e0]
      by_cases ho : (odd != l) = false
      · rw [if_pos ⟨rfl, ho⟩]
        rfl
      · rw [if_neg (fun q => ho q.2)]
        show some (Rl.s [] _) = some (Rl.s [] _)
        rw [e0]
    · rw [if_neg (fun q => he q.1), if_neg (fun q => he q.1)]
      rfl
  · rw [if_neg hm, if_neg hm]
    rfl
theorem left_x : ∀ {k : Kd} {m : Nat} {b : Nat} {l : Bool} {r : Rl}, okR k m r → leftR k.x b (!l) (xR r) = (leftR k b l r).map xR
  | .e, _, b, l, .e ss, h => leftE_x h.1
  | .s, _, b, l, .s bs odd, h => leftS_x h.2.1
  | .f, _, b, l, .f bs hd, _ => by
    show leftF b ((!l) == false) bs hd = (leftF b (l == true) bs hd).map xR
    have e : ((!l) == false) = (l == true) := by cases l <;> rfl
    rw [e]
    unfold leftF
    split <;> rfl
  | .n, _, b, l, .f bs hd, _ => by
    show leftF b ((!l) == true) bs hd = (leftF b (l == false) bs hd).map xR
    have e : ((!l) == true) = (l == false) := by cases l <;> rfl
    rw [e]
    unfold leftF
    split <;> rfl
  | .e, _, _, _, .s _ _, h => h.elim
  | .e, _, _, _, .f _ _, h => h.elim
  | .s, _, _, _, .e _, h => h.elim
  | .s, _, _, _, .f _ _, h => h.elim
  | .f, _, _, _, .e _, h => h.elim
  | .f, _, _, _, .s _ _, h => h.elim
  | .n, _, _, _, .e _, h => h.elim
  | .n, _, _, _, .s _ _, h => h.elim

/-! ## the form is kept -/
theorem x_ok : ∀ {k : Kd} {m : Nat} {r : Rl}, okR k m r → okR k.x m (xR r)
  | .e, m, .e ss, h => by
    refine ⟨?_, fun p hp => ?_⟩
    · rw [sort2_length, List.length_map]
      exact h.1
    · obtain ⟨q, hq, e⟩ := List.mem_map.mp (mem_sort2.mp hp)
      rw [← e]
      exact h.2 q hq
  | .s, _, .s _ _, h => h
  | .f, _, .f _ _, h => h
  | .n, _, .f _ _, h => h
  | .e, _, .s _ _, h => h.elim
  | .e, _, .f _ _, h => h.elim
  | .s, _, .e _, h => h.elim
  | .s, _, .f _ _, h => h.elim
  | .f, _, .e _, h => h.elim
  | .f, _, .s _ _, h => h.elim
  | .n, _, .e _, h => h.elim
  | .n, _, .s _ _, h => h.elim
theorem filter_len {α : Type} (p : α → Bool) (l : List α) : (l.filter p).length ≤ l.length := List.length_filter_le p l
theorem leftF_ok {b : Nat} {so : Bool} {bs : List Nat} {hd : Option Nat} {m : Nat} {r' : Rl} (h : bs.length ≤ 6 ∧ (∀ b ∈ bs, b < m) ∧ ∀ x, hd = some x → x < m) (e : leftF b so bs hd = some r') :
    ∃ bs' hd', r' = .f bs' hd' ∧ bs'.length ≤ 6 ∧ (∀ b ∈ bs', b < m) ∧ ∀ x, hd' = some x → x < m := by
  unfold leftF at e
  split at e
  · cases e
  · cases e
    refine ⟨_, _, rfl, Nat.le_trans (filter_len _ _) h.1, fun a ha => h.2.1 a (List.mem_filter.mp ha).1, fun x hx => ?_⟩
    split at hx
    · cases hx
    · exact h.2.2 x hx
theorem left_ok : ∀ {k : Kd} {m : Nat} {b : Nat} {l : Bool} {r r' : Rl}, okR k m r → leftR k b l r = some r' → okR k m r'
  | .e, m, b, l, .e ss, r', h, e => by
    have e : leftE b l ss = some r' := e
    unfold leftE at e
    split at e
    · cases e
    · cases e
      exact ⟨Nat.le_trans (filter_len _ _) h.1, fun p hp => h.2 p (List.mem_filter.mp hp).1⟩
  | .s, m, b, l, .s bs odd, r', h, e => by
    have e : leftS b l bs odd = some r' := e
    unfold leftS at e
    split at e
    · split at e
      · cases e
      · cases e
        exact ⟨Nat.le_trans (filter_len _ _) h.1, List.Pairwise.filter _ h.2.1, fun a ha => h.2.2 a (List.mem_filter.mp ha).1⟩
    · cases e
      exact h
  | .f, m, b, l, .f bs hd, r', h, e => by
    obtain ⟨bs', hd', rfl, q⟩ := leftF_ok h e
    exact q
  | .n, m, b, l, .f bs hd, r', h, e => by
    obtain ⟨bs', hd', rfl, q⟩ := leftF_ok h e
    exact q
  | .e, _, _, _, .s _ _, _, h, _ => h.elim
  | .e, _, _, _, .f _ _, _, h, _ => h.elim
  | .s, _, _, _, .e _, _, h, _ => h.elim
  | .s, _, _, _, .f _ _, _, h, _ => h.elim
  | .f, _, _, _, .e _, _, h, _ => h.elim
  | .f, _, _, _, .s _ _, _, h, _ => h.elim
  | .n, _, _, _, .e _, _, h, _ => h.elim
  | .n, _, _, _, .s _ _, _, h, _ => h.elim

/-! ## whole books -/
def Ok (k : Kd) (m : Nat) (rs : List Rl) : Prop := ∀ r ∈ rs, okR k m r
theorem Ok.x {k : Kd} {m : Nat} {rs : List Rl} (h : Ok k m rs) : Ok k.x m (rs.map xR) := fun r hr => by
  obtain ⟨q, hq, e⟩ := List.mem_map.mp hr
  rw [← e]
  exact x_ok (h q hq)
theorem Ok.left {k : Kd} {m b : Nat} {l : Bool} {rs : List Rl} (h : Ok k m rs) : Ok k m (rs.filterMap (leftR k b l)) := fun r hr => by
  obtain ⟨q, hq, e⟩ := List.mem_filterMap.mp hr
  exact left_ok (h q hq) e
theorem lefts_x {k : Kd} {m b : Nat} {l : Bool} : ∀ {rs : List Rl}, Ok k m rs → (rs.map xR).filterMap (leftR k.x b (!l)) = (rs.filterMap (leftR k b l)).map xR
  | [], _ => rfl
  | r :: rs, h => by
    have ih := lefts_x (b := b) (l := l) (rs := rs) fun q hq => h q (List.mem_cons_of_mem _ hq)
    have e := left_x (b := b) (l := l) (h r List.mem_cons_self)
    rw [List.map_cons]
    cases c : leftR k b l r with
    | none =>
      rw [c] at e
      rw [List.filterMap_cons_none e, List.filterMap_cons_none c, ih]
    | some r' =>
      rw [c] at e
      rw [List.filterMap_cons_some e, List.filterMap_cons_some c, ih]
      rfl
/-- the places below i of the rules that do not hold -/
def badAt (f : Rl → Bool) (rs : List Rl) (j : Nat) : Bool := match rs[j]? with
  | some r => !f r
  | none => false
def brk (f : Rl → Bool) (rs : List Rl) (i : Nat) : List Nat := (List.range i).filter (badAt f rs)
theorem brk_succ (f : Rl → Bool) (rs : List Rl) (i : Nat) {r : Rl} (h : rs[i]? = some r) : brk f rs (i + 1) = brk f rs i ++ (if f r = true then [] else [i]) := by
  unfold brk
  rw [List.range_succ, List.filter_append]
  congr 1
  have e : badAt f rs i = !f r := by
    unfold badAt
    rw [h]
  rw [List.filter_cons, e]
  cases f r <;> rfl
theorem brk_le (f : Rl → Bool) (rs : List Rl) (i : Nat) : (brk f rs i).length ≤ i := by
  have h := filter_len (badAt f rs) (List.range i)
  rw [List.length_range] at h
  exact h
theorem brk_x {k : Kd} {ev : List Bool} {rs : List Rl} (h : Ok k ev.length rs) : brk (holdsR k.x (ev.map (!·))) (rs.map xR) (rs.map xR).length = brk (holdsR k ev) rs rs.length := by
  unfold brk
  rw [List.length_map]
  refine filter_congr' fun j hj => ?_
  unfold badAt
  rw [List.getElem?_map]
  cases c : rs[j]? with
  | none => rfl
  | some r =>
    show (!holdsR k.x (ev.map (!·)) (xR r)) = !holdsR k ev r
    rw [holds_x (h r (List.mem_of_getElem? c))]
/-! ## blends -/
def arity : Kd → Nat
  | .e => 3 | .s => 3 | .f => 2 | .n => 2
def many (evs : List (List Bool)) (at_ : Nat) : Nat := (evs.filter fun ev => bitAt ev at_).length
def blendB : Kd → Nat → Bool
  | .e, c => decide (1 < c)
  | .s, c => decide (c % 2 = 1)
  | .f, c => decide (c = 2)
  | .n, c => decide (0 < c)
def blend (k : Kd) (evs : List (List Bool)) (n : Nat) : List Bool := (List.range n).map fun i => blendB k (many evs i)
theorem blend_length (k : Kd) (evs : List (List Bool)) (n : Nat) : (blend k evs n).length = n := by
  unfold blend
  rw [List.length_map, List.length_range]
theorem blend_succ (k : Kd) (evs : List (List Bool)) (n : Nat) : blend k evs (n + 1) = blend k evs n ++ [blendB k (many evs n)] := by
  unfold blend
  rw [List.range_succ, List.map_append]
  rfl
theorem many_not {evs : List (List Bool)} {n i : Nat} (hi : i < n) : (∀ ev ∈ evs, ev.length = n) → many evs i + many (evs.map fun ev => ev.map (!·)) i = evs.length := by
  unfold many
  induction evs with
  | nil => intro _; rfl
  | cons ev evs ih =>
    intro h
    have ih' := ih fun e he => h e (List.mem_cons_of_mem _ he)
    have hb := bitAt_not (ev := ev) (b := i) (by rw [h ev List.mem_cons_self]; exact hi)
    rw [List.map_cons, List.filter_cons, List.filter_cons, hb]
    cases bitAt ev i
    · simp only [Bool.false_eq_true, if_false, Bool.not_false, if_true, List.length_cons]
      omega
    · simp only [Bool.false_eq_true, if_false, Bool.not_true, if_true, List.length_cons]
      omega
theorem blendB_x : ∀ {k : Kd} {a c : Nat}, a + c = arity k → blendB k.x c = !blendB k a
  | .e, a, c, h => by
    have h : a + c = 3 := h
    show decide (1 < c) = !decide (1 < a)
    by_cases q : 1 < a
    · rw [decide_eq_true q, decide_eq_false (by omega)]; rfl
    · rw [decide_eq_false q, decide_eq_true (by omega)]; rfl
  | .s, a, c, h => by
    have h : a + c = 3 := h
    show decide (c % 2 = 1) = !decide (a % 2 = 1)
    by_cases q : a % 2 = 1
    · rw [decide_eq_true q, decide_eq_false (by omega)]; rfl
    · rw [decide_eq_false q, decide_eq_true (by omega)]; rfl
  | .f, a, c, h => by
    have h : a + c = 2 := h
    show decide (0 < c) = !decide (a = 2)
    by_cases q : a = 2
    · rw [decide_eq_true q, decide_eq_false (by omega)]; rfl
    · rw [decide_eq_false q, decide_eq_true (by omega)]; rfl
  | .n, a, c, h => by
    have h : a + c = 2 := h
    show decide (c = 2) = !decide (0 < a)
    by_cases q : 0 < a
    · rw [decide_eq_true q, decide_eq_false (by omega)]; rfl
    · rw [decide_eq_false q, decide_eq_true (by omega)]; rfl
theorem blend_x {k : Kd} {evs : List (List Bool)} {n : Nat} (ha : evs.length = arity k) (hl : ∀ ev ∈ evs, ev.length = n) :
    blend k.x (evs.map fun ev => ev.map (!·)) n = (blend k evs n).map (!·) := by
  unfold blend
  rw [List.map_map]
  refine List.map_congr_left fun i hi => ?_
  have hi' : i < n := List.mem_range.mp hi
  have e := many_not hi' hl
  rw [ha] at e
  exact blendB_x e
end Ka

set_option Elab.async false
set_option linter.all false
set_option maxRecDepth 100000
set_option maxHeartbeats 4000000
namespace Ka
open PySem PySem.Spec PyProof.Rows L2
/-! ## Data of tuples alone, as it lies on the heap -/
mutual
inductive Tp (K : PySem.W.Frag) (H : Hp) : V → PyData → Prop
  | non : Tp K H .non .none
  | bl (b : Bool) : Tp K H (.bl b) (.bool b)
  | int (i : Int) : Tp K H (.int i) (.int i)
  | str (x : Str) : Tp K H (.str x) (.str x)
  | tup {a : Addr} {xs : List V} {ds : List PyData} (h : SqT K H a xs) (t : TpA K H xs ds) : Tp K H (.ref a) (.tuple ds)
inductive TpA (K : PySem.W.Frag) (H : Hp) : List V → List PyData → Prop
  | nil : TpA K H [] []
  | cons {v : V} {vs : List V} {d : PyData} {ds : List PyData} (h : Tp K H v d) (t : TpA K H vs ds) : TpA K H (v :: vs) (d :: ds)
end
/-- tuples (and what is locked) stay -/
structure Keep (H H' : Hp) : Prop where
  tup : ∀ b xs, H b = some (.tup xs) → H' b = some (.tup xs)
  frz : ∀ b o u, H b = some (.frz o u) → H' b = some (.frz o u)
theorem Keep.of {H H' : Hp} (s : Same H H') : Keep H H' := ⟨fun _ _ e => s _ _ e, fun _ _ _ e => s _ _ e⟩
theorem Keep.put {H : Hp} {D : Addr} {xs ys : List V} (h : H D = some (.lst xs)) : Keep H (upd H D (.lst ys)) :=
  ⟨fun b zs e => by rw [upd_ne (ne_of e h (by intro q; cases q))]; exact e, fun b o u e => by rw [upd_ne (ne_of e h (by intro q; cases q))]; exact e⟩
theorem Keep.sqT {K : PySem.W.Frag} {H H' : Hp} {a : Addr} {xs : List V} (k : Keep H H') (h : SqT K H a xs) : SqT K H' a xs := by
  rcases h with (h | ⟨o, h⟩) | h
  · exact .inl (.inl (k.tup _ _ h))
  · exact .inl (.inr ⟨o, k.frz _ _ _ h⟩)
  · exact .inr h
mutual
theorem Tp.keep {K : PySem.W.Frag} {H H' : Hp} (k : Keep H H') : ∀ {d : PyData} {v : V}, Tp K H v d → Tp K H' v d
  | .none, _, h => by cases h; exact .non
  | .bool b, _, h => by cases h; exact .bl b
  | .int i, _, h => by cases h; exact .int i
  | .str x, _, h => by cases h; exact .str x
  | .list _, _, h => by cases h
  | .dict _, _, h => by cases h
  | .tuple ds, _, h => by
    cases h with
    | tup hs t => exact .tup (k.sqT hs) (TpA.keep k t)
theorem TpA.keep {K : PySem.W.Frag} {H H' : Hp} (k : Keep H H') : ∀ {ds : List PyData} {vs : List V}, TpA K H vs ds → TpA K H' vs ds
  | [], _, h => by cases h; exact .nil
  | d :: ds, _, h => by
    cases h with
    | cons h t => exact .cons (Tp.keep k h) (TpA.keep k t)
end
mutual
theorem Tp.dp {K : PySem.W.Frag} {H : Hp} : ∀ {d : PyData} {v : V}, Tp K H v d → Dp K H v d
  | .none, _, h => by cases h; exact .non
  | .bool b, _, h => by cases h; exact .bl b
  | .int i, _, h => by cases h; exact .int i
  | .str x, _, h => by cases h; exact .str x
  | .list _, _, h => by cases h
  | .dict _, _, h => by cases h
  | .tuple ds, _, h => by
    cases h with
    | tup hs t => exact .tup hs (TpA.dp t)
theorem TpA.dp {K : PySem.W.Frag} {H : Hp} : ∀ {ds : List PyData} {vs : List V}, TpA K H vs ds → DpAll K H vs ds
  | [], _, h => by cases h; exact .nil
  | d :: ds, _, h => by
    cases h with
    | cons h t => exact .cons (Tp.dp h) (TpA.dp t)
end
section
variable {K : PySem.W.Frag} {H H' : Hp}
theorem Tp.same {v : V} {d : PyData} (h : Tp K H v d) (s : Same H H') : Tp K H' v d := Tp.keep (.of s) h
theorem TpA.same {vs : List V} {ds : List PyData} (h : TpA K H vs ds) (s : Same H H') : TpA K H' vs ds := TpA.keep (.of s) h
theorem Tp.inv {v : V} {ds : List PyData} (h : Tp K H v (.tuple ds)) : ∃ a xs, v = .ref a ∧ SqT K H a xs ∧ TpA K H xs ds := by
  cases h with
  | tup hs t => exact ⟨_, _, rfl, hs, t⟩
theorem Tp.int_inv {v : V} {i : Int} (h : Tp K H v (.int i)) : v = .int i := by cases h; rfl
theorem Tp.bl_inv {v : V} {b : Bool} (h : Tp K H v (.bool b)) : v = .bl b := by cases h; rfl
theorem Tp.str_inv {v : V} {x : Str} (h : Tp K H v (.str x)) : v = .str x := by cases h; rfl
theorem Tp.non_inv {v : V} (h : Tp K H v .none) : v = .non := by cases h; rfl
theorem TpA.len : ∀ {vs : List V} {ds : List PyData}, TpA K H vs ds → vs.length = ds.length
  | _, [], h => by cases h; rfl
  | _, d :: ds, h => by
    cases h with
    | cons h t => rw [List.length_cons, List.length_cons, TpA.len t]
theorem TpA.get : ∀ {vs : List V} {ds : List PyData} {i : Nat} {x : V}, TpA K H vs ds → vs[i]? = some x → ∃ d, ds[i]? = some d ∧ Tp K H x d
  | _, [], i, x, h, e => by cases h; simp at e
  | _, d :: ds, 0, x, h, e => by
    cases h with
    | cons h t => cases Option.some.inj e; exact ⟨d, rfl, h⟩
  | _, d :: ds, i + 1, x, h, e => by
    cases h with
    | cons h t =>
      obtain ⟨d', e', h'⟩ := TpA.get (i := i) t e
      exact ⟨d', e', h'⟩
theorem TpA.at {vs : List V} {ds : List PyData} {i : Nat} {d : PyData} (h : TpA K H vs ds) (e : ds[i]? = some d) : ∃ x, vs[i]? = some x ∧ Tp K H x d := by
  have hl := h.len
  have hi : i < vs.length := by
    have := (List.getElem?_eq_some_iff.mp e).1
    omega
  have ex := List.getElem?_eq_getElem hi
  obtain ⟨d', e', h'⟩ := h.get ex
  rw [e] at e'
  cases Option.some.inj e'
  exact ⟨_, ex, h'⟩
/-- items told by a list of mine -/
theorem TpA.getM {α : Type} {f : α → PyData} {l : List α} {vs : List V} {i : Nat} {x : V} (h : TpA K H vs (l.map f)) (e : vs[i]? = some x) : ∃ y, l[i]? = some y ∧ Tp K H x (f y) := by
  obtain ⟨d, ed, t⟩ := h.get e
  rw [List.getElem?_map] at ed
  cases c : l[i]? with
  | none => rw [c] at ed; cases ed
  | some y =>
    rw [c] at ed
    cases Option.some.inj ed
    exact ⟨y, rfl, t⟩
theorem TpA.atM {α : Type} {f : α → PyData} {l : List α} {vs : List V} {i : Nat} {y : α} (h : TpA K H vs (l.map f)) (e : l[i]? = some y) : ∃ x, vs[i]? = some x ∧ Tp K H x (f y) :=
  h.at (by rw [List.getElem?_map, e]; rfl)
theorem TpA.app : ∀ {vs us : List V} {ds es : List PyData}, TpA K H vs ds → TpA K H us es → TpA K H (vs ++ us) (ds ++ es)
  | _, _, [], _, h, g => by cases h; exact g
  | _, _, d :: ds, _, h, g => by
    cases h with
    | cons h t => exact .cons h (TpA.app t g)
theorem TpA.one {v : V} {d : PyData} (h : Tp K H v d) : TpA K H [v] [d] := .cons h .nil
theorem TpA.two {v u : V} {d e : PyData} (h : Tp K H v d) (g : Tp K H u e) : TpA K H [v, u] [d, e] := .cons h (.cons g .nil)
theorem TpA.two_inv {vs : List V} {d e : PyData} (h : TpA K H vs [d, e]) : ∃ v u, vs = [v, u] ∧ Tp K H v d ∧ Tp K H u e := by
  cases h with
  | cons h t =>
    cases t with
    | cons g t => cases t; exact ⟨_, _, rfl, h, g⟩
theorem TpA.int_inv {α : Type} {f : α → Int} : ∀ {l : List α} {vs : List V}, TpA K H vs (l.map fun b => PyData.int (f b)) → vs = l.map fun b => V.int (f b)
  | [], _, h => by cases h; rfl
  | b :: l, _, h => by
    cases h with
    | cons h t => rw [h.int_inv, TpA.int_inv t]; rfl
theorem TpA.bl_inv {α : Type} {f : α → Bool} : ∀ {l : List α} {vs : List V}, TpA K H vs (l.map fun b => PyData.bool (f b)) → vs = l.map fun b => V.bl (f b)
  | [], _, h => by cases h; rfl
  | b :: l, _, h => by
    cases h with
    | cons h t => rw [h.bl_inv, TpA.bl_inv t]; rfl
theorem TpA.ints {α : Type} {f : α → Int} : ∀ {l : List α}, TpA K H (l.map fun b => V.int (f b)) (l.map fun b => PyData.int (f b))
  | [] => .nil
  | b :: l => .cons (.int _) TpA.ints
theorem TpA.bls {α : Type} {f : α → Bool} : ∀ {l : List α}, TpA K H (l.map fun b => V.bl (f b)) (l.map fun b => PyData.bool (f b))
  | [] => .nil
  | b :: l => .cons (.bl _) TpA.bls
end
/-! ## heaps -/
theorem same_upd {H : Hp} {p : Addr} {o : HO} (h : H p = none) : Same H (upd H p o) := fun b x e => by
  rw [upd_ne (ne_of_none e h)]
  exact e
/-- a new tuple -/
theorem Tp.new {K : PySem.W.Frag} {H : Hp} {p : Addr} {xs : List V} {ds : List PyData} (h : TpA K H xs ds) (n : H p = none) : Tp K (upd H p (.tup xs)) (.ref p) (.tuple ds) :=
  .tup (.inl (.inl upd_same)) (h.same (same_upd n))
theorem line1000 {n : Nat} (h : n ≤ 1000) : n ≤ sizeLine := Nat.le_of_lt (small1000 h)
/-- the list at D, new behind H0, holds the data ds so far; all of H0 stands -/
structure Lc (K : PySem.W.Frag) (H0 : Hp) (D : Addr) (ds : List PyData) (H : Hp) : Prop where
  same : Same H0 H
  lst : ∃ ys, H D = some (.lst ys) ∧ TpA K H ys ds
section
variable {K : PySem.W.Frag} {H0 H H' : Hp} {D : Addr} {ds : List PyData}
theorem Lc.start (n : H0 D = none) : Lc K H0 D [] (upd H0 D (.lst [])) := ⟨same_upd n, [], upd_same, .nil⟩
theorem Lc.on (l : Lc K H0 D ds H) (s : Same H H') : Lc K H0 D ds H' := by
  obtain ⟨ys, e, t⟩ := l.lst
  exact ⟨l.same.trans s, ys, s _ _ e, t.same s⟩
theorem Lc.acc (l : Lc K H0 D ds H) (n : H0 D = none) (hz : ds.length ≤ 1000) : ∃ acc, H D = some (.lst acc) ∧ acc.length < sizeLine ∧ ∀ y d, Tp K H y d → Lc K H0 D (ds ++ [d]) (upd H D (.lst (acc ++ [y]))) := by
  obtain ⟨ys, e, t⟩ := l.lst
  refine ⟨ys, e, by rw [t.len]; exact small1000 hz, fun y d h => ⟨fun b o q => ?_, ys ++ [y], upd_same, TpA.app (TpA.keep (Keep.put e) t) (.one (Tp.keep (Keep.put e) h))⟩⟩
  rw [upd_ne (ne_of_none q n)]
  exact l.same _ _ q
theorem Lc.put (l : Lc K H0 D ds H) (n : H0 D = none) (hz : ds.length ≤ 1000) {y : V} {d : PyData} (t : Tp K H y d) : ∃ acc, H D = some (.lst acc) ∧ acc.length < sizeLine ∧ Lc K H0 D (ds ++ [d]) (upd H D (.lst (acc ++ [y]))) := by
  obtain ⟨acc, h1, h2, h3⟩ := l.acc n hz
  exact ⟨acc, h1, h2, h3 y d t⟩
theorem Lc.seq (l : Lc K H0 D ds H) : ∃ ys, SqL K H D ys ∧ TpA K H ys ds := by
  obtain ⟨ys, e, t⟩ := l.lst
  exact ⟨ys, .inl (.inl e), t⟩
/-- made a tuple -/
theorem Lc.tuple (l : Lc K H0 D ds H) : ∃ ys, SqL K H D ys ∧ ∀ p, H p = none → Same H0 (upd H p (.tup ys)) ∧ Tp K (upd H p (.tup ys)) (.ref p) (.tuple ds) := by
  obtain ⟨ys, e, t⟩ := l.lst
  exact ⟨ys, .inl (.inl e), fun p n => ⟨l.same.trans (same_upd n), Tp.new t n⟩⟩
end
/-! ## books, rules, evenings as data -/
def Kd.str : Kd → Str
  | .e => "eithers" | .s => "sums" | .f => "ifs" | .n => "nots"
def dI (b : Nat) : PyData := .int (b : Int)
/-- a beacon as a value -/
def vI (b : Nat) : V := .int (b : Int)
def dS (p : Nat × Bool) : PyData := .tuple [dI p.1, .bool p.2]
def dH : Option Nat → PyData
  | none => .none
  | some b => dI b
def dB (bs : List Nat) : PyData := .tuple (bs.map dI)
def dR : Rl → PyData
  | .e ss => .tuple (ss.map dS)
  | .s bs odd => .tuple [dB bs, .bool odd]
  | .f bs hd => .tuple [dB bs, dH hd]
def dE (ev : List Bool) : PyData := .tuple (ev.map .bool)
def dK (k : Kd) (rs : List Rl) : PyData := .tuple [.str k.str, .tuple (rs.map dR)]
section
variable {K : PySem.W.Frag} {H : Hp} {v : V}
theorem book_inv {k : Kd} {rs : List Rl} (h : Tp K H v (dK k rs)) : ∃ a r xs, v = .ref a ∧ SqT K H a [.str k.str, .ref r] ∧ SqT K H r xs ∧ TpA K H xs (rs.map dR) := by
  obtain ⟨a, xs, rfl, hs, t⟩ := h.inv
  obtain ⟨x, y, rfl, h1, h2⟩ := t.two_inv
  obtain ⟨r, ys, rfl, hr, t'⟩ := h2.inv
  rw [h1.str_inv] at hs
  exact ⟨a, r, ys, rfl, hs, hr, t'⟩
theorem sums_inv {bs : List Nat} {odd : Bool} (h : Tp K H v (dR (.s bs odd))) : ∃ a r, v = .ref a ∧ SqT K H a [.ref r, .bl odd] ∧ SqT K H r (bs.map vI) := by
  obtain ⟨a, xs, rfl, hs, t⟩ := h.inv
  obtain ⟨x, y, rfl, h1, h2⟩ := t.two_inv
  obtain ⟨r, ys, rfl, hr, t'⟩ := h1.inv
  have e := TpA.int_inv (f := fun b : Nat => (b : Int)) t'
  rw [h2.bl_inv] at hs
  rw [e] at hr
  exact ⟨a, r, rfl, hs, hr⟩
def vH : Option Nat → V
  | none => .non
  | some b => .int (b : Int)
theorem head_inv {hd : Option Nat} (h : Tp K H v (dH hd)) : v = vH hd := by
  cases hd with
  | none => exact h.non_inv
  | some b => exact h.int_inv
theorem head_tp (hd : Option Nat) : Tp K H (vH hd) (dH hd) := by
  cases hd with
  | none => exact .non
  | some b => exact .int _
theorem ifs_inv {bs : List Nat} {hd : Option Nat} (h : Tp K H v (dR (.f bs hd))) : ∃ a r, v = .ref a ∧ SqT K H a [.ref r, vH hd] ∧ SqT K H r (bs.map vI) := by
  obtain ⟨a, xs, rfl, hs, t⟩ := h.inv
  obtain ⟨x, y, rfl, h1, h2⟩ := t.two_inv
  obtain ⟨r, ys, rfl, hr, t'⟩ := h1.inv
  have e := TpA.int_inv (f := fun b : Nat => (b : Int)) t'
  rw [head_inv h2] at hs
  rw [e] at hr
  exact ⟨a, r, rfl, hs, hr⟩
theorem eithers_inv {ss : List (Nat × Bool)} (h : Tp K H v (dR (.e ss))) : ∃ a xs, v = .ref a ∧ SqT K H a xs ∧ TpA K H xs (ss.map dS) := h.inv
theorem saying_inv {p : Nat × Bool} (h : Tp K H v (dS p)) : ∃ a, v = .ref a ∧ SqT K H a [.int (p.1 : Int), .bl p.2] := by
  obtain ⟨a, xs, rfl, hs, t⟩ := h.inv
  obtain ⟨x, y, rfl, h1, h2⟩ := t.two_inv
  rw [h2.bl_inv, (show x = .int (p.1 : Int) from h1.int_inv)] at hs
  exact ⟨a, rfl, hs⟩
theorem evening_inv {ev : List Bool} (h : Tp K H v (dE ev)) : ∃ a, v = .ref a ∧ SqT K H a (ev.map .bl) := by
  obtain ⟨a, xs, rfl, hs, t⟩ := h.inv
  rw [TpA.bl_inv (f := fun b : Bool => b) t] at hs
  exact ⟨a, rfl, hs⟩
theorem at_ev {ev : List Bool} {b : Nat} (h : b < ev.length) : atI (ev.map V.bl) (b : Int) = some (.bl (bitAt ev b)) :=
  atI_nat (by rw [List.getElem?_map, bitAt_get h]; rfl)
end
/-! ## shaped, equal -/
theorem lay_all : ∀ {ds : List PyData}, (∀ d ∈ ds, d.canLay0 = true) → PyData.canLayAll0 ds = true
  | [], _ => by simp only [PyData.canLayAll0]
  | d :: ds, h => by simp only [PyData.canLayAll0, h d List.mem_cons_self, lay_all fun e he => h e (List.mem_cons_of_mem _ he), Bool.and_self]
theorem depth_all {n : Nat} : ∀ {ds : List PyData}, (∀ d ∈ ds, d.depth ≤ n) → PyData.depthAll ds ≤ n
  | [], _ => by simp only [PyData.depthAll]; exact Nat.zero_le _
  | d :: ds, h => by
    have h1 := h d List.mem_cons_self
    have h2 := depth_all fun e he => h e (List.mem_cons_of_mem (a := e) d he)
    simp only [PyData.depthAll]
    omega
/-- fit to be laid, of depth at most n -/
structure Fit (n : Nat) (d : PyData) : Prop where
  lay : d.canLay0 = true
  dep : d.depth ≤ n
theorem Fit.shaped {n : Nat} {d : PyData} (h : Fit n d) (hn : n ≤ 64) : SeqAt.shaped d = true := by
  show (d.canLay0 && decide (d.depth ≤ 64)) = true
  rw [h.lay, decide_eq_true (Nat.le_trans h.dep hn)]
  rfl
theorem Fit.tup {n : Nat} {ds : List PyData} (h : ∀ d ∈ ds, Fit n d) : Fit (n + 1) (.tuple ds) := by
  refine ⟨?_, ?_⟩
  · simp only [PyData.canLay0]
    exact lay_all fun d hd => (h d hd).lay
  · have := depth_all fun d hd => (h d hd).dep
    simp only [PyData.depth]
    omega
theorem Fit.lst {n : Nat} {ds : List PyData} (h : ∀ d ∈ ds, Fit n d) : Fit (n + 1) (.list ds) := by
  refine ⟨?_, ?_⟩
  · simp only [PyData.canLay0]
    exact lay_all fun d hd => (h d hd).lay
  · have := depth_all fun d hd => (h d hd).dep
    simp only [PyData.depth]
    omega
theorem Fit.mono {n m : Nat} {d : PyData} (h : Fit n d) (hm : n ≤ m) : Fit m d := ⟨h.lay, Nat.le_trans h.dep hm⟩
theorem fit_int (i : Int) : Fit 0 (.int i) := ⟨by simp only [PyData.canLay0], by simp only [PyData.depth]; exact Nat.le_refl _⟩
theorem fit_bool (b : Bool) : Fit 0 (.bool b) := ⟨by simp only [PyData.canLay0], by simp only [PyData.depth]; exact Nat.le_refl _⟩
theorem fit_none : Fit 0 .none := ⟨by simp only [PyData.canLay0], by simp only [PyData.depth]; exact Nat.le_refl _⟩
theorem fit_kd (k : Kd) : Fit 0 (.str k.str) := by
  refine ⟨?_, by simp only [PyData.depth]; exact Nat.le_refl _⟩
  simp only [PyData.canLay0]
  cases k <;> decide +kernel
theorem fit_S (p : Nat × Bool) : Fit 1 (dS p) := Fit.tup fun d hd => by
  rcases List.mem_cons.mp hd with rfl | hd
  · exact fit_int _
  · rcases List.mem_cons.mp hd with rfl | hd
    · exact fit_bool _
    · exact absurd hd List.not_mem_nil
theorem fit_map {α : Type} {n : Nat} {f : α → PyData} {l : List α} (h : ∀ x, Fit n (f x)) : ∀ d ∈ l.map f, Fit n d := fun d hd => by
  obtain ⟨x, _, rfl⟩ := List.mem_map.mp hd
  exact h x
theorem fit_H (hd : Option Nat) : Fit 0 (dH hd) := by
  cases hd with
  | none => exact fit_none
  | some b => exact fit_int _
theorem fit_B (bs : List Nat) : Fit 1 (dB bs) := Fit.tup (fit_map fun b => fit_int _)
theorem fit_E (ev : List Bool) : Fit 1 (dE ev) := Fit.tup (fit_map fun b => fit_bool _)
theorem fit_two {n : Nat} {d e : PyData} (h : Fit n d) (g : Fit n e) : Fit (n + 1) (.tuple [d, e]) := Fit.tup fun x hx => by
  rcases List.mem_cons.mp hx with rfl | hx
  · exact h
  · rcases List.mem_cons.mp hx with rfl | hx
    · exact g
    · exact absurd hx List.not_mem_nil
theorem fit_R (r : Rl) : Fit 2 (dR r) := by
  cases r with
  | e ss => exact Fit.tup (fit_map fit_S)
  | s bs odd => exact fit_two (fit_B bs) ((fit_bool odd).mono (by decide))
  | f bs hd => exact fit_two (fit_B bs) ((fit_H hd).mono (by decide))
theorem fit_K (k : Kd) (rs : List Rl) : Fit 4 (dK k rs) := fit_two ((fit_kd k).mono (by decide)) (Fit.tup (fit_map fit_R))
theorem eqv_self {n : Nat} {d : PyData} (h : Fit n d) : PyData.eqv d d = true := SeqAt.eqv_refl d h.lay
theorem eqv_S (p q : Nat × Bool) : PyData.eqv (dS p) (dS q) = decide (p = q) := by
  obtain ⟨a, l⟩ := p
  obtain ⟨b, m⟩ := q
  have e : PyData.eqv (dS (a, l)) (dS (b, m)) = (((a : Int) == (b : Int)) && ((l == m) && true)) := by simp only [dS, dI, PyData.eqv, PyData.eqvAll]
  rw [e, Bool.and_true]
  by_cases h1 : a = b
  · subst h1
    rw [(show ((a : Int) == (a : Int)) = true from beq_self_eq_true _), Bool.true_and]
    by_cases h2 : l = m
    · subst h2
      rw [beq_self_eq_true, decide_eq_true rfl]
    · rw [beq_eq_false_iff_ne.mpr h2, decide_eq_false (fun q => h2 (Prod.mk.inj q).2)]
  · rw [(show ((a : Int) == (b : Int)) = false from beq_eq_false_iff_ne.mpr (by omega)), Bool.false_and, decide_eq_false (fun q => h1 (Prod.mk.inj q).1)]
end Ka

set_option Elab.async false
set_option linter.all false
set_option maxRecDepth 100000
set_option maxHeartbeats 4000000
namespace Ka
open PySem PySem.Spec PyProof.Rows L2
/-! ## for i, x in enumerate(a tuple) -/
theorem enum1_new {v : Value} {ob : Obj} {Hh : Heap → Prop} (B : Begins v ob Hh) :
    Meets (Builtin.«enumerate.__new__» ⟨[.type "enumerate", v], []⟩)
      (fun _ R s => Hh s.heap ∧ R (.ok (.ret (.ref (s.heap.push ob).objs.size)))
        { s with heap := Heap.push (s.heap.push ob) { cls := .type "enumerate", data := .fields #[.none, .bool false, .ref s.heap.objs.size, rawInt 0, .none, .none] } }) :=
  .of_wp fun prog w A R s hh => by
    obtain ⟨hp, gn, dr, tk, os⟩ := s
    obtain ⟨hB, hR⟩ := hh
    have hsub := sub_enumerate
    have itr : ∀ {A' : Around} {E : Value → Shared → Prop} {Q : Value → Shared → Prop}, Q (.ref hp.objs.size) ⟨hp.push ob, gn, dr, tk, os⟩ → wpAny (model prog w) A' (pyIter v) Q E ⟨hp, gn, dr, tk, os⟩ := fun {A' E Q} q =>
      B.iter prog w A' E ⟨hp, gn, dr, tk, os⟩ Q hB q
    wp_walk using itr
    refine wpAny_stack_any fun stk => wpAny_pure ?_
    split
    · rename_i cl _ _ _ _ _
      cases (cl == Value.type "enumerate") <;> (wp_walk using itr; exact ⟨_, rfl, hR⟩)
    · wp_walk using itr
      exact ⟨_, rfl, hR⟩
section
variable {prog : Program} {w : World} {A : Around} {E : Value → Shared → Prop} {s : Shared}
theorem enum1_call {v : Value} {ob : Obj} {Hh : Heap → Prop} {Q : Value → Shared → Prop} (B : Begins v ob Hh) (hB : Hh s.heap)
    (k : ∀ h', IsEnum h' (s.heap.objs.size + 1) s.heap.objs.size 0 .none → h'.get? s.heap.objs.size = some ob → (∀ b o, s.heap.get? b = some o → h'.get? b = some o) → Q (.ref (s.heap.objs.size + 1)) { s with heap := h' }) :
    wpAny (model prog w) A (call (.type "enumerate") [v]) Q E s := by
  refine callType_new F.called_enumerate (by decide) (F.typeCall_enumerate_1 _) (F.newCall_enumerate_1 _) (fun obj => F.args_object_init_2 obj _) F.entry_enumerate_new (enum1_new B) ⟨hB, ?_⟩
  have hz : (s.heap.push ob).objs.size = s.heap.objs.size + 1 := Heap.size_push ..
  rw [hz]
  have he : IsEnum (Heap.push (s.heap.push ob) { cls := .type "enumerate", data := .fields #[.none, .bool false, .ref s.heap.objs.size, rawInt 0, .none, .none] }) (s.heap.objs.size + 1) s.heap.objs.size 0 .none := by
    have q := Heap.get?_push_size (s.heap.push ob) (o := { cls := .type "enumerate", data := .fields #[.none, .bool false, .ref s.heap.objs.size, rawInt 0, .none, .none] }) rfl
    rw [hz] at q
    exact q
  exact ⟨⟨_, he, rfl⟩, k _ he (Heap.get?_push_of_some _ (Heap.get?_push_size _ B.free)) fun b o e => Heap.get?_push_of_some _ (Heap.get?_push_of_some _ e)⟩
end
/-- the tuple at a, each item in a new pair behind its place -/
def IteT (K : PySem.W.Frag) (a : Addr) : It where
  go := fun i H => ∃ (xs : List V) (x : V), SqT K H a xs ∧ xs[i]? = some x
  yld := fun i H v H' => ∃ T x, v = .ref T ∧ H T = none ∧ H' = upd H T (.tup [.int (i : Nat), x]) ∧ ∀ xs, SqT K H a xs → xs[i]? = some x
  stop := fun i H => ∃ xs : List V, SqT K H a xs ∧ xs.length = i
theorem turn_enumT {P : Program} {w : World} {K : PySem.W.Frag} {elts : List Expr} {kk : Nat} {tpos : Pos} (a e it : Addr) :
    Turn P w K (.Tuple elts kk tpos) (IteT K a) [e, it] e (fun i h => (∃ old, IsEnum h e it ((i : Nat) : Int) old) ∧ h.IsTupleIter it a i ∧ e ≠ it) where
  mem := List.mem_cons_self
  obj := fun i h st b hb => by
    obtain ⟨⟨old, he⟩, ⟨ob, ho, hc, hd⟩, _⟩ := st
    rcases List.mem_cons.mp hb with z | z
    · rw [z]
      exact ⟨_, he, fun v q => nomatch q⟩
    · rw [List.mem_singleton.mp z]
      exact ⟨ob, ho, fun v q => by rw [hd] at q; cases q⟩
  keep := fun i h h' st k => by
    obtain ⟨⟨old, he⟩, hi, hne⟩ := st
    exact ⟨⟨old, k e List.mem_cons_self _ he⟩, hi.at fun ob q => k it (List.mem_cons_of_mem _ List.mem_cons_self) ob q, hne⟩
  item := by
    intro X hP hw hK hc i pins s σ H E I hf st hg
    subst hP hw hK
    obtain ⟨⟨old, he⟩, hit, hne⟩ := st
    obtain ⟨xs, x, hq, hx⟩ := hg
    obtain ⟨its, rv, p, hz⟩ := I.tuple hq
    obtain ⟨u, hu, ru⟩ := rv.get hx
    have hel : e < s.heap.objs.size := Heap.lt_size he
    have hil : it < s.heap.objs.size := by
      obtain ⟨_, q, _⟩ := hit
      exact Heap.lt_size q
    obtain ⟨oa, hoa, hca, _⟩ := id p
    have nea : a ≠ e := fun z => by
      rw [z, he] at hoa
      cases Option.some.inj hoa
      exact absurd (Value.type.inj hca) (by decide)
    have nita : a ≠ it := fun z => by
      obtain ⟨oi, hoi, hci, _⟩ := hit
      rw [z, hoi] at hoa
      cases Option.some.inj hoa
      rw [hci] at hca
      exact absurd (Value.type.inj hca) (by decide)
    have D := Draws.tuple (prog := X.prog) (w := X.w) (A := X.A.in1) (I.ok.hd hc) it a nita its.toArray
    have hi : i < its.toArray.size := by
      have := (List.getElem?_eq_some_iff.mp hu).1
      simpa using this
    refine wpAny_pyNext_enum_itemC D he ⟨hit, p⟩ hi hne (fun z => ?_) fun y h' tk hy ho hs hT hsz hk => ?_
    · rcases List.mem_cons.mp z with z | z
      · exact hne z
      · exact nea (List.mem_singleton.mp z).symm
    have ey : y = u := by
      have q : its[i]? = some y := by simpa using hy
      exact Option.some.inj (q.symm.trans hu)
    subst ey
    refine ⟨_, rfl, wpAny_letOwnedTupleGo_enum (s := { s with heap := h', toks := tk + 1 }) ho fun h'' he' sb => ?_⟩
    have hT2 : h''.get? s.heap.objs.size = some { cls := .type "tuple", data := .seq #[.int i tk, y] } := (sb.2 _ (Nat.ne_of_gt hel)).trans hT
    have new : ObjOk X.prog X.w (upd H s.heap.objs.size (.tup [.int (i : Nat), x])) h'' s.heap.objs.size (.tup [.int (i : Nat), x]) :=
      ⟨line1000 (by decide : 2 ≤ 1000), [.int i tk, y], .cons ⟨_, rfl⟩ (.cons ru .nil), ⟨_, hT2, rfl, _, rfl⟩⟩
    have hin : ∀ b, b ∈ [e, it] → b < s.heap.objs.size := fun b hb => by
      rcases List.mem_cons.mp hb with z | z
      · rw [z]; exact hel
      · rw [List.mem_singleton.mp z]; exact hil
    have I1 : Inv X pins σ (upd H s.heap.objs.size (.tup [.int (i : Nat), x])) { s with heap := h'', toks := tk + 1 } := by
      refine I.turnedNew (ch := [e, it]) (fun b ob hb q => ?_) hf (Nat.le_refl _) new
      have n1 : b ≠ e := fun z => hb (by rw [z]; exact List.mem_cons_self)
      have n2 : b ≠ it := fun z => hb (by rw [z]; exact List.mem_cons_of_mem _ List.mem_cons_self)
      exact (sb.2 b n1).trans (hk b ob n1 n2 q)
    refine ⟨.ref s.heap.objs.size, _, I1, rfl, ⟨_, x, rfl, I.hok.fresh (Nat.le_refl _), rfl, fun ys hy => by rw [I.tuple_inj hy hq]; exact hx⟩, ⟨⟨y, ?_⟩, hs.1.at fun o q => (sb.2 it (Ne.symm hne)).trans q, hne⟩, fun b hb => ?_⟩
    · have e1 : ((i + 1 : Nat) : Int) = (i : Int) + 1 := by omega
      rw [e1]
      exact he'
    · rw [upd_ne (Nat.ne_of_lt (hin b hb))]
      exact (hf b hb).1
  done := by
    intro X hP hw hK hc i pins s σ H E I hf st hg
    subst hP hw hK
    obtain ⟨⟨old, he⟩, hit, hne⟩ := st
    obtain ⟨xs, hq, hx⟩ := hg
    obtain ⟨its, rv, p, hz⟩ := I.tuple hq
    obtain ⟨oa, hoa, hca, _⟩ := id p
    have nita : a ≠ it := fun z => by
      obtain ⟨oi, hoi, hci, _⟩ := hit
      rw [z, hoi] at hoa
      cases Option.some.inj hoa
      rw [hci] at hca
      exact absurd (Value.type.inj hca) (by decide)
    have D := Draws.tuple (prog := X.prog) (w := X.w) (A := X.A.in1) (I.ok.hd hc) it a nita its.toArray
    obtain ⟨f0, f1, f2, f3, f4, f5⟩ := hf it (List.mem_cons_of_mem _ List.mem_cons_self)
    have hl := rv.length
    have hn : its.toArray.size = i := by
      rw [List.size_toArray]
      omega
    exact wpAny_pyNext_enum_endD D he (by rw [hn]; exact ⟨hit, p⟩) fun h' eb => ⟨rfl, I.turned (t' := s.toks) (fun b o hb q => eb b o hb q) f0 f1 f3 f4 f5⟩
  self := fun A i s Q E st h => by
    obtain ⟨⟨_, he⟩, _⟩ := st
    exact wpAny_pyIter_enum he h
def iEnumT (K : PySem.W.Frag) (ta : TA) : TI := fun σ H R => ta σ H fun vs H1 => ∃ a xs, vs = [.ref a] ∧ SqT K H1 a xs ∧ R (IteT K a) H1
theorem pi_enumT {X : Cx} {e : Expr} {ta : TA} {p pos tpos : Pos} {elts : List Expr} {kk : Nat} (hg : Gl X "enumerate") (hm : X.mg "enumerate" = none) (ha : PA X [e] ta)
    (hs : starEach [e] X.env = [(false, eval e X.env)] := by rfl) : PI X (.Tuple elts kk tpos) (.Call (.Name "enumerate" p) [e] [] pos) (iEnumT X.K ta) := by
  constructor
  intro pins s σ H R I h
  refine Call_ (ld_blt I hg hm boot_enumerate (PyProof.Rows.callWith_type1 (thn (ha.run pos pins s σ H _ I h) ?_) hs rfl))
  rintro us s1 ⟨vs, H1, I1, r1, a, xs, rfl, hq, q⟩
  cases r1 with
  | cons r rr =>
    cases rr
    cases r
    obtain ⟨its, rv, p', hz⟩ := I1.tuple hq
    refine enum1_call (begins_tuple a its.toArray) p' fun h' he hit hk => wpAny_pyIter_enum he ?_
    have I2 : Inv X pins σ H1 { s1 with heap := h' } := I1.kept (t' := s1.toks) hk
    refine ⟨s1.heap.objs.size + 1, [s1.heap.objs.size + 1, s1.heap.objs.size], _, _, H1, rfl, I2, turn_enumT a (s1.heap.objs.size + 1) s1.heap.objs.size, ⟨⟨.none, he⟩, ⟨_, hit, rfl, rfl⟩, Nat.succ_ne_self _⟩, fun b hb => ?_, q⟩
    have hle : s1.heap.objs.size ≤ b := by
      rcases List.mem_cons.mp hb with z | z
      · rw [z]; exact Nat.le_add_right _ _
      · rw [List.mem_singleton.mp z]; exact Nat.le_refl _
    exact I1.fpOk hle (I1.hok.fresh hle)
theorem walk_enumT {K : PySem.W.Frag} {a : Addr} {xs : List V} : Walk (IteT K a) xs.length (fun H => SqT K H a xs) (YPair (fun i => some (.int (i : Nat))) (fun i => xs[i]?)) where
  goes := fun i _ hi q => ⟨xs, xs[i], q, List.getElem?_eq_getElem hi⟩
  stops := fun _ q => ⟨xs, q, rfl⟩
  yields := fun i H v H' _ q y => by
    obtain ⟨T, x, h1, h2, h3, h4⟩ := y
    exact ⟨T, .int (i : Nat), x, h1, h2, h3, rfl, h4 xs q⟩
end Ka

set_option Elab.async false
set_option linter.all false
set_option maxRecDepth 100000
set_option maxHeartbeats 400000
namespace Ka
open PySem PySem.Spec PyProof.Rows L2
/-! ## x in t, t a tuple of data of any depth -/
def rInT (K : PySem.W.Frag) : R2 := fun x y H Q => ∃ d ds, Dp K H x d ∧ Dp K H y (.tuple ds) ∧ SeqAt.shaped d = true ∧ SeqAt.shaped (.tuple ds) = true ∧ Q (.bl (ds.any fun z => PyData.eqv z d)) H
theorem op_inT {X : Cx} (hu : X.A.units + 65 < cLine) : OpR X (compareOp .In) (rInT X.K) := by
  rintro pins s σ H x y v u Q I rx ry ⟨d, ds, hd, he, sd, se, q⟩
  obtain ⟨as, r1⟩ := Dp.reads I d x v hd rx
  obtain ⟨bs, r2⟩ := Dp.reads I (.tuple ds) y u he ry
  have room := room_in_shaped (xs := ds) sd hu
  exact SeqAt.in_tuple_reads r2 r1 (SeqAt.canLay_of_shaped se) (SeqAt.canLay_of_shaped sd) room ⟨.bl _, H, I, rfl, q⟩
/-! ## sorted of pairs (int, truth) -/
/-- a pair of an int and a truth -/
def IsPB (h : Heap) (v : Value) (x : Int) (y : Bool) : Prop := ∃ a o t n, v = .ref a ∧ h.get? a = some o ∧ o.cls = .type "tuple" ∧ o.data = .seq #[.int x t, .bool y] n
theorem IsPB.on {h h' : Heap} {v : Value} {x : Int} {y : Bool} (p : IsPB h v x y) (k : ∀ b o, h.get? b = some o → o.cls = .type "tuple" → h'.get? b = some o) : IsPB h' v x y := by
  obtain ⟨a, o, t, n, e, ho, hc, hd⟩ := p
  exact ⟨a, o, t, n, e, k _ _ ho hc, hc, hd⟩
/-- its key, read off the heap -/
def keyPB (h : Heap) (v : Value) : Int × Int := match v with
  | .ref a => match h.get? a with
    | some o => match o.data with
      | .seq its _ => match its.toList with
        | [.int x _, .bool y] => (x, b2i y)
        | _ => (0, 0)
      | _ => (0, 0)
    | none => (0, 0)
  | _ => (0, 0)
theorem IsPB.key {h : Heap} {v : Value} {x : Int} {y : Bool} (p : IsPB h v x y) : keyPB h v = (x, b2i y) := by
  obtain ⟨a, o, t, n, e, ho, hc, hd⟩ := p
  subst e
  simp only [keyPB, ho, hd]
section
variable {prog : Program} {w : World} {A : Around} {E : Value → Shared → Prop} {s : Shared}
theorem pb_cmp {vs : List Value} {k : Value → Int × Int} (hp : ∀ v ∈ vs, ∃ x y, k v = (x, b2i y) ∧ IsPB s.heap v x y) :
    SrtO.Cmp prog w A s (tuples' true) (fun p => p.1 ∈ vs) (SrtO.lt2 fun v u => SrtO.lexB (k v) (k u)) := by
  intro p q hm hm'
  obtain ⟨x, y, ek, a, o, t, n, e, ho, hc, hd⟩ := hp _ hm
  obtain ⟨x', y', ek', a', o', t', n', e', ho', hc', hd'⟩ := hp _ hm'
  show wpAny (model prog w) A (keyLt' (tuples' true) p.1 q.1) (fun r s' => s' = s ∧ r = SrtO.lexB (k p.1) (k q.1)) (fun _ _ => False) s
  rw [ek, ek', e, e']
  unfold SrtO.lexB
  dsimp only
  refine PySem.W.kat_lt ho hd ho' hd' ?_
  show PySem.W.KatLex prog w A true (decide (2 < 2)) _ [(.int x t, .int x' t'), (.bool y, .bool y')] 0 s
  refine PySem.W.kat_cons (SeqAt.EqAt.int_int x t x' t' prog w _ _ ?_)
  refine PySem.W.kat_go (fun e1 => ?_) (fun e1 => ?_)
  · have ex : x = x' := by simpa using e1
    rw [if_pos ex]
    refine PySem.W.kat_yes (PySem.W.kat_cons (SeqAt.EqAt.bool_bool y y' prog w _ _ ?_))
    refine PySem.W.kat_go (fun e2 => ?_) (fun e2 => ?_)
    · have ey : y = y' := by simpa using e2
      refine PySem.W.kat_yes (PySem.W.kat_nil ⟨rfl, ?_⟩)
      rw [ey]
      exact (decide_eq_false (Int.lt_irrefl _)).symm
    · refine PySem.W.kat_no (PySem.W.kat_one _ _ (PyProof.Rows.lt_bool ?_))
      exact (show s = s ∧ decide (b2i y < b2i y') = decide (b2i y < b2i y') from ⟨rfl, rfl⟩)
  · have ex : ¬ x = x' := by simpa using e1
    rw [if_neg ex]
    exact PySem.W.kat_no (oneLt_int ⟨rfl, rfl⟩)
theorem pb_firsts {h : Heap} : ∀ {vs : List Value}, (∀ v ∈ vs, ∃ x y, IsPB h v x y) → ∃ fs : List Value, PySem.W.KatTups h vs fs ∧ fs.length = vs.length ∧ ∀ f ∈ fs, ∃ x t, f = Value.int x t
  | [], _ => ⟨[], .nil, rfl, fun _ hm => absurd hm List.not_mem_nil⟩
  | v :: vs, hp => by
    obtain ⟨fs, h1, h2, h3⟩ := pb_firsts (vs := vs) fun u hm => hp u (List.mem_cons_of_mem _ hm)
    obtain ⟨x, y, a, o, t, n, e, ho, hc, hd⟩ := hp v List.mem_cons_self
    subst e
    refine ⟨.int x t :: fs, .cons ho hc hd rfl h1, by simp [h2], fun f hm => ?_⟩
    rcases List.mem_cons.mp hm with e | hm
    · exact ⟨x, t, e⟩
    · exact h3 f hm
theorem pb_sortable {a : Addr} {vs : List Value} {k : Value → Int × Int} (h0 : 0 < vs.length) (hp : ∀ v ∈ vs, ∃ x y, k v = (x, b2i y) ∧ IsPB s.heap v x y) (ha : ∀ o, s.heap.get? a = some o → o.cls ≠ .type "tuple") :
    SrtO.SortableO prog w A s a vs fun v u => SrtO.lexB (k v) (k u) := by
  intro h' keep
  have hp' : ∀ v ∈ vs, ∃ x y, k v = (x, b2i y) ∧ IsPB h' v x y := fun v hm => by
    obtain ⟨x, y, e, q⟩ := hp v hm
    refine ⟨x, y, e, q.on fun b o eb c => keep b o (fun z => ?_) eb⟩
    rw [z] at eb
    exact ha o eb c
  obtain ⟨fs, h1, h2, h3⟩ := pb_firsts fun v hm => by
    obtain ⟨x, y, _, q⟩ := hp' v hm
    exact ⟨x, y, q⟩
  refine ⟨tuples' true, fun Q E hq => ?_, pb_cmp hp'⟩
  refine PySem.W.kat_kind (T := .type "int") h1 (by omega) (fun f hm => ?_) (by rfl) ?_
  · obtain ⟨x, t, rfl⟩ := h3 f hm
    exact .now
  · rw [(show (Value.type "int" != Value.type "tuple") = true by first | decide +kernel | rfl | decide)]
    exact hq
theorem sorted_pb {l : Addr} {vs : List Value} {k : Value → Int × Int} {Q : Value → Shared → Prop} (hl : s.heap.IsList l vs.toArray) (hz : vs.length ≤ sizeLine) (hp : ∀ v ∈ vs, ∃ x y, k v = (x, b2i y) ∧ IsPB s.heap v x y)
    (h : ∀ (h' : Heap) (d : Addr) (out : List Value), SrtO.Srtd (fun v u => SrtO.lexB (k v) (k u)) out → out.Perm vs → (∀ b o, s.heap.get? b = some o → h'.get? b = some o) → s.heap.objs.size ≤ d →
      (∃ n, h'.get? d = some (seqObj "list" out.toArray n)) → Q (.ref d) { s with heap := h' }) : wpAny (model prog w) A (call (.builtin "sorted") [.ref l]) Q E s := by
  refine SrtO.sorted_ord (SrtO.swo_lex k) hl hz (fun h2 h₁ a ha kk => ?_) fun out hs hb => ?_
  · refine pb_sortable (s := { s with heap := h₁ }) (by omega) (fun v hm => ?_) fun o e => ?_
    · obtain ⟨x, y, e, q⟩ := hp v hm
      exact ⟨x, y, e, q.on fun b o eb _ => (kk b o eb).2⟩
    · cases Option.some.inj (e.symm.trans ha)
      intro c
      exact absurd (Value.type.inj c) (by decide)
  · exact h _ _ out hs hb.perm (fun b o e => sortedAll_old e) (Nat.le_succ _) (sortedAll_at s.heap vs out.toArray)
end
theorem lexB_key (p q : Nat × Bool) : SrtO.lexB ((p.1 : Int), b2i p.2) ((q.1 : Int), b2i q.2) = ltS p q := by
  obtain ⟨a, l⟩ := p
  obtain ⟨b, m⟩ := q
  unfold SrtO.lexB ltS
  dsimp only
  by_cases e : a = b
  · rw [if_pos e, if_pos (by rw [e])]
    cases l <;> cases m <;> simp [b2i]
  · rw [if_neg e, if_neg (by omega)]
    by_cases c : a < b
    · rw [decide_eq_true c, decide_eq_true (by omega)]
    · rw [decide_eq_false c, decide_eq_false (by omega)]
theorem ltS_eq {p q : Nat × Bool} (h1 : ltS p q = false) (h2 : ltS q p = false) : p = q := by
  obtain ⟨a, l⟩ := p
  obtain ⟨b, m⟩ := q
  unfold ltS at h1 h2
  dsimp only at h1 h2
  by_cases e : a = b
  · subst e
    rw [if_pos rfl] at h1 h2
    have : l = m := by cases l <;> cases m <;> first | rfl | exact absurd h1 (by decide) | exact absurd h2 (by decide)
    rw [this]
  · rw [if_neg e] at h1
    rw [if_neg (Ne.symm e)] at h2
    have h1 := of_decide_eq_false h1
    have h2 := of_decide_eq_false h2
    omega
theorem sort2_no {p q : Nat × Bool} (h : ltS q p = false) : sort2 [p, q] = [p, q] := by
  show (if ltS q p = true then [q, p] else [p, q]) = [p, q]
  rw [h]
  rfl
theorem sort2_yes {p q : Nat × Bool} (h : ltS p q = false) : sort2 [p, q] = [q, p] := by
  cases c : ltS q p with
  | true =>
    show (if ltS q p = true then [q, p] else [p, q]) = [q, p]
    rw [c]
    rfl
  | false =>
    have e := ltS_eq h c
    subst e
    exact sort2_no c
theorem perm_two {α : Type} {v u : α} : ∀ {out : List α}, out.Perm [v, u] → out = [v, u] ∨ out = [u, v]
  | [], hp => absurd hp.length_eq (by simp)
  | [_], hp => absurd hp.length_eq (by simp)
  | [b, c], hp => by
    have m : b ∈ [v, u] := hp.mem_iff.mp List.mem_cons_self
    rcases List.mem_cons.mp m with e | m
    · subst e
      have z : [c] = [u] := List.Perm.eq_singleton hp.cons_inv
      exact .inl (by rw [z])
    · have e := List.mem_singleton.mp m
      subst e
      have hp' : List.Perm [b, c] [b, v] := hp.trans (List.Perm.swap _ _ _)
      have z : [c] = [v] := List.Perm.eq_singleton hp'.cons_inv
      exact .inr (by rw [z])
  | _ :: _ :: _ :: _, hp => absurd hp.length_eq (by simp)
/-- sorted of at most two sayings -/
def rSortB (K : PySem.W.Frag) : List V → Hp → VK → Prop := fun vs H Q => ∃ (a : Addr) (xs : List V) (ss : List (Nat × Bool)), vs = [V.ref a] ∧ SqL K H a xs ∧ TpA K H xs (ss.map dS) ∧ ss.length ≤ 2 ∧
  ∀ ys p, TpA K H ys ((sort2 ss).map dS) → H p = none → Q (.ref p) (upd H p (.lst ys))
section
variable {X : Cx} {pins : List (Addr × Obj)} {σ : L2.St} {H : Hp} {s : Shared}
theorem pb_of (I : Inv X pins σ H s) {x : V} {u : Value} {p : Nat × Bool} (h : Tp X.K H x (dS p)) (r : RelV x u) : IsPB s.heap u (p.1 : Int) p.2 := by
  obtain ⟨a, rfl, hs⟩ := saying_inv h
  cases (show u = Value.ref a from r)
  obtain ⟨its, rv, ⟨o, ho, hc, n, hd⟩, _⟩ := I.tuple hs
  obtain ⟨u1, u2, rfl, ⟨t, e1⟩, e2⟩ := Vals.two rv
  cases e1
  cases (show u2 = Value.bool p.2 from e2)
  exact ⟨a, o, t, n, rfl, ho, hc, hd⟩
/-- what is wanted of the new list's address -/
theorem sortB_fin (I : Inv X pins σ H s) {Q : VK} {ss : List (Nat × Bool)} {h' : Heap} {d : Addr} {out : List Value} {ys : List V} (h2 : ss.length ≤ 2) (q : ∀ ys p, TpA X.K H ys ((sort2 ss).map dS) → H p = none → Q (.ref p) (upd H p (.lst ys)))
    (hv : Vals ys out) (ty : TpA X.K H ys ((sort2 ss).map dS)) (kp : ∀ b o, s.heap.get? b = some o → h'.get? b = some o) (hd : s.heap.objs.size ≤ d) (hn : ∃ n, h'.get? d = some (seqObj "list" out.toArray n)) : EP X pins σ Q (.ref d) { s with heap := h' } := by
  obtain ⟨n, hn⟩ := hn
  refine ⟨.ref d, upd H d (.lst ys), I.laid (t' := s.toks) kp hd ⟨?_, out, n, hv, hn⟩, rfl, q ys d ty (I.hok.fresh hd)⟩
  have e := ty.len
  rw [List.length_map, sort2_length] at e
  exact line1000 (by omega)
theorem sortB_two (I : Inv X pins σ H s) {E : Value → Shared → Prop} {a : Addr} {Q : VK} {p q' : Nat × Bool} {x y : V} {v u : Value} (hl : s.heap.IsList a [v, u].toArray) (tx : Tp X.K H x (dS p)) (ty : Tp X.K H y (dS q')) (rx : RelV x v) (ry : RelV y u)
    (q : ∀ ys r, TpA X.K H ys ((sort2 [p, q']).map dS) → H r = none → Q (.ref r) (upd H r (.lst ys))) : wpAny (model X.prog X.w) X.A (call (.builtin "sorted") [.ref a]) (EP X pins σ Q) E s := by
  have pv := pb_of I tx rx
  have pu := pb_of I ty ry
  refine sorted_pb (k := keyPB s.heap) hl (line1000 (show 2 ≤ 1000 by decide)) (fun z hz => ?_) fun h' d out hsr hp kp hd hn => ?_
  · rcases List.mem_cons.mp hz with e | hz
    · rw [e]
      exact ⟨_, _, pv.key, pv⟩
    · rw [List.mem_singleton.mp hz]
      exact ⟨_, _, pu.key, pu⟩
  · have lvu : SrtO.lexB (keyPB s.heap v) (keyPB s.heap u) = ltS p q' := by
      rw [pv.key, pu.key]
      exact lexB_key p q'
    have luv : SrtO.lexB (keyPB s.heap u) (keyPB s.heap v) = ltS q' p := by
      rw [pv.key, pu.key]
      exact lexB_key q' p
    rcases perm_two hp with e | e
    · subst e
      have h1 : SrtO.lexB (keyPB s.heap u) (keyPB s.heap v) = false := (List.pairwise_cons.mp hsr).1 u List.mem_cons_self
      rw [luv] at h1
      refine sortB_fin I (ss := [p, q']) (ys := [x, y]) (Nat.le_refl 2) q (.cons rx (.cons ry .nil)) ?_ kp hd hn
      rw [sort2_no h1]
      exact .cons tx (.cons ty .nil)
    · subst e
      have h1 : SrtO.lexB (keyPB s.heap v) (keyPB s.heap u) = false := (List.pairwise_cons.mp hsr).1 v List.mem_cons_self
      rw [lvu] at h1
      refine sortB_fin I (ss := [p, q']) (ys := [y, x]) (Nat.le_refl 2) q (.cons ry (.cons rx .nil)) ?_ kp hd hn
      rw [sort2_yes h1]
      exact .cons ty (.cons tx .nil)
theorem sortB_one (I : Inv X pins σ H s) {E : Value → Shared → Prop} {a : Addr} {Q : VK} {p : Nat × Bool} {x : V} {v : Value} (hl : s.heap.IsList a [v].toArray) (tx : Tp X.K H x (dS p)) (rx : RelV x v)
    (q : ∀ ys r, TpA X.K H ys ((sort2 [p]).map dS) → H r = none → Q (.ref r) (upd H r (.lst ys))) : wpAny (model X.prog X.w) X.A (call (.builtin "sorted") [.ref a]) (EP X pins σ Q) E s := by
  have pv := pb_of I tx rx
  refine sorted_pb (k := fun _ => ((p.1 : Int), b2i p.2)) hl (line1000 (show 1 ≤ 1000 by decide)) (fun u hu => ?_) fun h' d out _ hp kp hd hn => ?_
  · rw [List.mem_singleton.mp hu]
    exact ⟨_, _, rfl, pv⟩
  · have e : out = [v] := List.Perm.eq_singleton hp
    subst e
    exact sortB_fin I (ss := [p]) (ys := [x]) (show 1 ≤ 2 by decide) q (.cons rx .nil) (.cons tx .nil) kp hd hn
theorem sortB_nil (I : Inv X pins σ H s) {E : Value → Shared → Prop} {a : Addr} {Q : VK} (hl : s.heap.IsList a ([] : List Value).toArray)
    (q : ∀ ys r, TpA X.K H ys ((sort2 []).map dS) → H r = none → Q (.ref r) (upd H r (.lst ys))) : wpAny (model X.prog X.w) X.A (call (.builtin "sorted") [.ref a]) (EP X pins σ Q) E s := by
  refine sorted_pb (k := fun _ => (0, 0)) hl (Nat.zero_le _) (fun u hu => absurd hu List.not_mem_nil) fun h' d out _ hp kp hd hn => ?_
  have e : out = [] := List.Perm.eq_nil hp
  subst e
  exact sortB_fin I (ss := []) (ys := []) (Nat.zero_le 2) q .nil .nil kp hd hn
theorem cr_sortB : CallR X (.builtin "sorted") (rSortB X.K) := by
  intro pins s σ H vs us Q I r h
  obtain ⟨a, xs, ss, rfl, hs, ht, h2, q⟩ := h
  obtain ⟨its, rv, hl, hz⟩ := I.list hs
  obtain ⟨u, rfl, ru⟩ := vals1 r
  cases (show u = Value.ref a from ru)
  cases ss with
  | nil =>
    cases ht
    cases Vals.zero rv
    exact sortB_nil I hl.isList q
  | cons p ss =>
    cases ht with
    | cons tx ht =>
      cases ss with
      | nil =>
        cases ht
        obtain ⟨v, rfl, rx⟩ := Vals.one rv
        exact sortB_one I hl.isList tx rx q
      | cons q' ss =>
        cases ht with
        | cons ty ht =>
          cases ss with
          | nil =>
            cases ht
            obtain ⟨v, u, rfl, rx, ry⟩ := Vals.two rv
            exact sortB_two I hl.isList tx ty rx ry q
          | cons r' ss =>
            rw [List.length_cons, List.length_cons, List.length_cons] at h2
            omega
end
end Ka

set_option Elab.async false
set_option linter.all false
set_option maxRecDepth 100000
set_option maxHeartbeats 400000
namespace Ka
open PySem PySem.Spec PyProof.Rows L2
/-! ## the text by places -/
def topS (i : Nat) : Stmt := PySem.Challenge.pw_duskbook_k11_whole_exchanged_alike.main.body.getD i (.Pass ⟨0, 0, 0, 0⟩)
abbrev sBlend : Stmt := topS 1
abbrev sXev : Stmt := topS 2
abbrev sXru : Stmt := topS 3
abbrev sXbo : Stmt := topS 4
abbrev sRho : Stmt := topS 6
abbrev sBrk : Stmt := topS 7
abbrev sHol : Stmt := topS 8
abbrev sEil : Stmt := topS 9
abbrev sSul : Stmt := topS 10
abbrev sIfl : Stmt := topS 11
abbrev sRul : Stmt := topS 12
abbrev sLeb : Stmt := topS 13
abbrev sCell : Stmt := topS 15
abbrev sMix : Stmt := topS 16
abbrev sKind : Stmt := topS 17
abbrev sRule : Stmt := topS 18
abbrev sBits : Stmt := topS 19
abbrev sBool : Stmt := topS 20
abbrev sLaw : Stmt := topS 21
/-- what the module's names leave to the built-ins -/
structure Bl (mg : Str → Option Value) : Prop where
  range : mg "range" = none
  len : mg "len" = none
  tuple : mg "tuple" = none
  sorted : mg "sorted" = none
  enumerate : mg "enumerate" = none
  int : mg "int" = none
  isinstance : mg "isinstance" = none
  bool : mg "bool" = none
/-! ## small lemmas of the readings -/
theorem same_sqT {K : PySem.W.Frag} {H H' : Hp} {a : Addr} {xs : List V} (s : Same H H') (h : SqT K H a xs) : SqT K H' a xs := Keep.sqT (.of s) h
/-- t[i] within a comprehension's block -/
theorem ix_tupK {X : Cx} (K : PySem.W.Frag) (h : X.K = K) : IxR X (rIxT K) := by
  subst h
  exact ix_tup
theorem call_tupleK {X : Cx} (K : PySem.W.Frag) (h : X.K = K) : CallR X (.type "tuple") (fun xs H Q => ∃ p ys, xs = [.ref p] ∧ ((SqL K H p ys ∧ ∀ l, H l = none → Q (.ref l) (upd H l (.tup ys))) ∨ (SqT K H p ys ∧ Q (.ref p) H))) := by
  subst h
  exact call_tuple_of
theorem take_map {α β : Type} {l : List α} {i : Nat} {y : α} (f : α → β) (h : l[i]? = some y) : (l.take (i + 1)).map f = (l.take i).map f ++ [f y] := by
  rw [List.take_add_one, h, List.map_append] <;> rfl
theorem take_fm {α β : Type} {l : List α} {i : Nat} {y : α} (f : α → Option β) (h : l[i]? = some y) : (l.take (i + 1)).filterMap f = (l.take i).filterMap f ++ (f y).toList := by
  have e : [y].filterMap f = (f y).toList := by
    cases c : f y with
    | none => rw [List.filterMap_cons_none c] <;> rfl
    | some z => rw [List.filterMap_cons_some c] <;> rfl
  rw [List.take_add_one, h, List.filterMap_append, ← e] <;> rfl
theorem take_fil {α : Type} {l : List α} {i : Nat} {y : α} (p : α → Bool) (h : l[i]? = some y) : (l.take (i + 1)).filter p = (l.take i).filter p ++ (if p y = true then [y] else []) := by
  have e : [y].filter p = if p y = true then [y] else [] := by
    rw [List.filter_cons]
    cases p y <;> rfl
  rw [List.take_add_one, h, List.filter_append, ← e] <;> rfl
theorem take_filT {α : Type} {l : List α} {i : Nat} {y : α} {p : α → Bool} (h : l[i]? = some y) (c : p y = true) : (l.take (i + 1)).filter p = (l.take i).filter p ++ [y] := by
  rw [take_fil p h, if_pos c]
theorem take_filF {α : Type} {l : List α} {i : Nat} {y : α} {p : α → Bool} (h : l[i]? = some y) (c : p y = false) : (l.take (i + 1)).filter p = (l.take i).filter p := by
  rw [take_fil p h, c, if_neg Bool.false_ne_true, List.append_nil]
theorem take_len {α : Type} (l : List α) (i : Nat) {n : Nat} (h : l.length ≤ n) : (l.take i).length ≤ n := by
  rw [List.length_take]
  omega
theorem kdE {k : Kd} : decide (V.str k.str = V.str "eithers") = true ↔ k = .e := by cases k <;> decide +kernel
theorem kdS {k : Kd} : decide (V.str k.str = V.str "sums") = true ↔ k = .s := by cases k <;> decide +kernel
theorem kdF {k : Kd} : decide (V.str k.str = V.str "ifs") = true ↔ k = .f := by cases k <;> decide +kernel
theorem kdN {k : Kd} : decide (V.str k.str = V.str "nots") = true ↔ k = .n := by cases k <;> decide +kernel
theorem okE {m : Nat} : ∀ {r : Rl}, okR .e m r → ∃ ss, r = .e ss ∧ ss.length ≤ 2 ∧ ∀ p ∈ ss, p.1 < m
  | .e ss, h => ⟨ss, rfl, h⟩
  | .s _ _, h => h.elim
  | .f _ _, h => h.elim
theorem okS {m : Nat} : ∀ {r : Rl}, okR .s m r → ∃ bs odd, r = .s bs odd ∧ bs.length ≤ 6 ∧ bs.Nodup ∧ ∀ b ∈ bs, b < m
  | .s bs odd, h => ⟨bs, odd, rfl, h⟩
  | .e _, h => h.elim
  | .f _ _, h => h.elim
theorem okF {k : Kd} {m : Nat} (h1 : k ≠ .e) (h2 : k ≠ .s) : ∀ {r : Rl}, okR k m r → ∃ bs hd, r = .f bs hd ∧ bs.length ≤ 6 ∧ (∀ b ∈ bs, b < m) ∧ ∀ x, hd = some x → x < m
  | .f bs hd, h => by
    cases k
    · exact absurd rfl h1
    · exact absurd rfl h2
    · exact ⟨bs, hd, rfl, h⟩
    · exact ⟨bs, hd, rfl, h⟩
  | .e _, h => by
    cases k
    · exact absurd rfl h1
    · exact h.elim
    · exact h.elim
    · exact h.elim
  | .s _ _, h => by
    cases k
    · exact h.elim
    · exact absurd rfl h2
    · exact h.elim
    · exact h.elim
theorem parV (n : Nat) : decide (V.int ((n : Int) % 2) = V.int 1) = decide (n % 2 = 1) := by
  by_cases h : n % 2 = 1
  · rw [decide_eq_true h]
    exact decide_eq_true (congrArg V.int (by omega))
  · rw [decide_eq_false h]
    exact decide_eq_false fun z => h (by have := V.int.inj z; omega)
theorem neV (a b : Bool) : (!decide (V.bl a = V.bl b)) = (a != b) := by cases a <;> cases b <;> decide
theorem eqB (a b : Bool) : decide (V.bl a = V.bl b) = (a == b) := by cases a <;> cases b <;> decide
theorem map_get {α β : Type} {f : α → β} {l : List α} {i : Nat} {x : β} (h : (l.map f)[i]? = some x) : ∃ y, l[i]? = some y ∧ x = f y := by
  rw [List.getElem?_map] at h
  cases c : l[i]? with
  | none => rw [c] at h; cases h
  | some y => rw [c] at h; exact ⟨y, rfl, (Option.some.inj h).symm⟩
end Ka

set_option Elab.async false
set_option linter.all false
set_option maxRecDepth 100000
set_option maxHeartbeats 400000
namespace Ka
open PySem PySem.Spec PyProof.Rows L2
theorem scXev : FnScope ["evening", "lit"] ["evening"] (defScope sXev) := ⟨rfl, rfl, rfl, by decide +kernel, rfl, by decide +kernel, by decide +kernel⟩
def spXev (K : PySem.W.Frag) : Sp := fun vs H Q _ => ∃ v ev, vs = [v] ∧ Tp K H v (dE ev) ∧ ev.length ≤ 60 ∧ ∀ H' u, Same H H' → Tp K H' u (dE (ev.map (!·))) → Q u H'
section
variable {P : Program} {w : World} {K : PySem.W.Frag} {mg : Str → Option Value} {base : Heap}
theorem ok_xev {f : Addr} {fd : FuncData} (F : Fun K "exchanged_evening" "exchanged_evening" sXev f fd) (T : Bl mg) : FnOk P w K mg base CX0 1 f fd ["evening"] (spXev K) := by
  refine F.ok scXev (fun vs H Q E h => ?_) (fun cdv A outer s H vs Q E hr h => ?_)
  · obtain ⟨v, ev, rfl, _⟩ := h
    rfl
  · obtain ⟨v, ev, rfl, he, hl, q⟩ := h
    obtain ⟨a, rfl, hS⟩ := evening_inv he
    refine ⟨_, pss_one (ps_ret (pe_callTy call_tuple_of (by rfl) T.tuple (by decide +kernel) (pa_cons
      (pe_lc (own := [("lit", 1)]) (g := gName 1) (tt := tYes) (by rfl) scXev.nd (pi_tup (pv 0)) (blkOk_by (own := [("lit", 1)]) (N := ["evening", "lit"]) (sc := defScope sXev) (by decide +kernel))
        (fun _ _ _ _ _ => pg_name (i := 1) scXev.nd rfl (Or.inl rfl)) (fun _ _ _ _ _ => pts_nil) (fun _ _ _ _ _ => pe_not (pv 1))) pa_nil))), ?_⟩
    refine ⟨.ref a, rfl, a, rfl, ⟨_, hS⟩, fun D hD => lc_tup (K := K) (a := a) (xs := ev.map .bl) (fun i H' => Lc K H D ((ev.take i).map fun b => .bool (!b)) H') (Lc.start hD) (fun i H' _ l => same_sqT l.same hS) (fun i x H' hx l => ?_) (fun H' l => ?_)⟩
    · obtain ⟨b, hb, rfl⟩ := map_get hx
      refine ⟨rfl, .bl b, rfl, b, rfl, ?_⟩
      rw [take_map _ hb]
      exact l.put hD (by rw [List.length_map]; exact take_len _ _ (by omega)) (.bl _)
    · have e : ((ev.take (ev.map V.bl).length).map fun b => PyData.bool (!b)) = (ev.map (!·)).map .bool := by
        rw [List.length_map, List.take_length, List.map_map]
        rfl
      rw [e] at l
      obtain ⟨ys, h1, h2⟩ := l.tuple
      refine ⟨D, ys, rfl, .inl ⟨h1, fun p hp => ?_⟩⟩
      obtain ⟨s2, t2⟩ := h2 p hp
      exact q _ _ s2 t2
end
end Ka

set_option Elab.async false
set_option linter.all false
set_option maxRecDepth 100000
set_option maxHeartbeats 400000
namespace Ka
open PySem PySem.Spec PyProof.Rows L2
theorem scXru : FnScope ["kind", "rule", "beacon", "lit"] ["kind", "rule"] (defScope sXru) := ⟨rfl, rfl, rfl, by decide +kernel, rfl, by decide +kernel, by decide +kernel⟩
def spXru (K : PySem.W.Frag) : Sp := fun vs H Q _ => ∃ k r v m, vs = [.str (Kd.str k), v] ∧ okR k m r ∧ Tp K H v (dR r) ∧ ∀ H' u, Same H H' → Tp K H' u (dR (xR r)) → Q u H'
section
variable {P : Program} {w : World} {K : PySem.W.Frag} {mg : Str → Option Value} {base : Heap}
theorem ok_xru {f : Addr} {fd : FuncData} (F : Fun K "exchanged_rule" "exchanged_rule" sXru f fd) (T : Bl mg) : FnOk P w K mg base CX0 1 f fd ["kind", "rule"] (spXru K) := by
  refine F.ok scXru (fun vs H Q E h => ?_) (fun cdv A outer s H vs Q E hr h => ?_)
  · obtain ⟨k, r, v, m, rfl, _⟩ := h
    rfl
  · obtain ⟨k, r, v, m, rfl, ho, ht, q⟩ := h
    refine ⟨_, pss_cons (ps_if (pt_cmpR op_eq (pv 0) pe_str (nomark _)) (pss_one (ps_ret (pe_callTy call_tuple_of (by rfl) T.tuple (by decide +kernel) (pa_cons
        (pe_callB cr_sortB (by rfl) T.sorted (by decide +kernel) (pa_cons
          (pe_lc (own := [("beacon", 2), ("lit", 3)]) (g := gTup K 2 (gCons (gName 2) (gCons (gName 3) gNil))) (tt := tYes) (by rfl) scXru.nd (pi_tup (pv 1)) (blkOk_by (own := [("beacon", 2), ("lit", 3)]) (N := ["kind", "rule", "beacon", "lit"]) (sc := defScope sXru) (by decide +kernel))
            (fun _ _ _ _ _ => pg_tup rfl (pgs_cons (pg_name (i := 2) scXru.nd rfl (Or.inl rfl)) (pgs_cons (pg_name (i := 3) scXru.nd rfl (Or.inl rfl)) pgs_nil))) (fun _ _ _ _ _ => pts_nil)
            (fun _ _ _ _ _ => pe_tup (pa_cons (pv 2) (pa_cons (pe_not (pv 3)) pa_nil)))) pa_nil)) pa_nil)))) pss_nil)
      (pss_cons (ps_if (pt_cmpR op_eq (pv 0) pe_str (nomark _)) (pss_one (ps_ret (pe_tup (pa_cons (pe_ix ix_tup (pv 1) pe_int (fun _ _ => rfl)) (pa_cons
        (pe_cmpR op_ne (pe_ix ix_tup (pv 1) pe_int (fun _ _ => rfl))
          (pe_cmpR op_eq (pe_op op_mod (pe_callB call_len_seq (by rfl) T.len PySem.boot_len (pa_cons (pe_ix ix_tup (pv 1) pe_int (fun _ _ => rfl)) pa_nil)) pe_int) pe_int (nomark _)) (nomark _)) pa_nil))))) pss_nil)
      (pss_one (ps_ret (pv 1)))), ?_⟩
    -- if kind == 'eithers'
    refine ⟨_, rfl, rfl, _, rfl, ite2 (fun c => ?_) (fun c => ?_)⟩
    · obtain rfl : k = .e := kdE.mp c
      obtain ⟨ss, rfl, h2, hb⟩ := okE ho
      obtain ⟨a, xs, rfl, hS, hA⟩ := eithers_inv ht
      have hl : xs.length = ss.length := by rw [hA.len, List.length_map]
      refine ⟨.ref a, rfl, a, rfl, ⟨_, hS⟩, fun D hD => lc_tup (K := K) (a := a) (xs := xs) (fun i H' => Lc K H D ((ss.take i).map fun p => dS (flip p)) H') (Lc.start hD) (fun i H' _ l => same_sqT l.same hS) (fun i x H' hx l => ?_) (fun H' l => ?_)⟩
      · obtain ⟨p, hp, tp⟩ := hA.getM hx
        obtain ⟨t, rfl, hT⟩ := saying_inv tp
        refine ⟨t, _, rfl, same_sqT l.same hT, rfl, _, _, rfl, _, _, rfl, rfl, rfl, _, rfl, _, rfl, p.2, rfl, (by show 2 ≤ sizeLine; decide), fun n hn => ?_⟩
        rw [take_map _ hp]
        exact (l.on (same_upd hn)).put hD (by rw [List.length_map]; exact take_len _ _ (by omega)) (Tp.new (.two (.int _) (.bl _)) hn)
      · obtain ⟨ys, h1, h3⟩ := l.seq
        rw [hl, List.take_length, (show (ss.map fun p => dS (flip p)) = (ss.map flip).map dS by rw [List.map_map]; rfl)] at h3
        refine ⟨D, ys, ss.map flip, rfl, h1, h3, by rw [List.length_map]; exact h2, fun zs n tz hn => ?_⟩
        refine ⟨n, zs, rfl, .inl ⟨SqL.of upd_same, fun n2 hn2 => ?_⟩⟩
        exact q _ _ (l.same.trans ((same_upd hn).trans (same_upd hn2))) (Tp.new (tz.same (same_upd hn)) hn2)
    -- if kind == 'sums'
    · refine ⟨_, rfl, rfl, _, rfl, ite2 (fun c2 => ?_) (fun c2 => ?_)⟩
      · obtain rfl : k = .s := kdS.mp c2
        obtain ⟨bs, odd, rfl, h2, hn, hb⟩ := okS ho
        obtain ⟨a, r, rfl, hS, hR⟩ := sums_inv ht
        refine ⟨_, rfl, a, _, 0, .ref r, rfl, rfl, hS, atI_nat (j := 0) rfl, _, rfl, a, _, 1, .bl odd, rfl, rfl, hS, atI_nat (j := 1) rfl, _, rfl, a, _, 0, .ref r, rfl, rfl, hS, atI_nat (j := 0) rfl, r, _, rfl, .inr hR, _, _, rfl, rfl, (by show (0 : Int) < 2; decide), rfl, rfl, ?_⟩
        refine ⟨(by show 2 ≤ sizeLine; decide), fun n hn => ?_⟩
        refine q _ _ (same_upd hn) (Tp.new (.two (.tup hR ?_) ?_) hn)
        · exact TpA.ints
        · have e : (!decide (V.bl odd = V.bl (decide (V.int (((bs.map vI).length : Int) % 2) = V.int 1)))) = (odd != decide (bs.length % 2 = 1)) := by
            rw [parV, neV, List.length_map]
          rw [e]
          exact .bl _
      -- return rule
      · obtain ⟨bs, hd, rfl, h2, hb, hh⟩ := okF (fun z => c (kdE.mpr z)) (fun z => c2 (kdS.mpr z)) ho
        exact ⟨v, rfl, q _ _ (Same.refl _) ht⟩
end
end Ka

set_option Elab.async false
set_option linter.all false
set_option maxRecDepth 100000
set_option maxHeartbeats 400000
namespace Ka
open PySem PySem.Spec PyProof.Rows L2
theorem scXbo : FnScope ["book", "kind", "rule"] ["book"] (defScope sXbo) := ⟨rfl, rfl, rfl, by decide +kernel, rfl, by decide +kernel, by decide +kernel⟩
def spXbo (K : PySem.W.Frag) : Sp := fun vs H Q _ => ∃ k rs v m, vs = [v] ∧ Ok k m rs ∧ rs.length ≤ 63 ∧ Tp K H v (dK k rs) ∧ ∀ H' u, Same H H' → Tp K H' u (dK k.x (rs.map xR)) → Q u H'
section
variable {P : Program} {w : World} {K : PySem.W.Frag} {mg : Str → Option Value} {base : Heap}
theorem ok_xbo {f fX : Addr} {fd fdX : FuncData} (F : Fun K "exchanged" "exchanged" sXbo f fd) (T : Bl mg) (FX : Fun K "exchanged_rule" "exchanged_rule" sXru fX fdX) (bX : Binds K fdX ["kind", "rule"] []) (gX : mg "exchanged_rule" = some (.ref fX)) :
    FnOk P w K mg base CX0 2 f fd ["book"] (spXbo K) := by
  have GX : FnOk P w K mg base CX0 1 fX fdX ["kind", "rule"] (spXru K) := ok_xru FX T
  refine F.ok scXbo (fun vs H Q E h => ?_) (fun cdv A outer s H vs Q E hr h => ?_)
  · obtain ⟨k, rs, v, m, rfl, _⟩ := h
    rfl
  · obtain ⟨k, rs, v, m, rfl, ho, hz, ht, q⟩ := h
    refine ⟨_, pss_cons (ps_set (i := 1) scXbo.nd rfl (Or.inl rfl) (pe_ix ix_tup (pv 0) pe_int (fun _ _ => rfl)))
      (C8.pss_cut (ps_if (pt_cmpR op_eq (pv 1) pe_str (nomark _)) (pss_one (ps_set (i := 1) scXbo.nd rfl (Or.inl rfl) pe_str))
        (pss_one (ps_if (pt_cmpR op_eq (pv 1) pe_str (nomark _)) (pss_one (ps_set (i := 1) scXbo.nd rfl (Or.inl rfl) pe_str)) pss_nil)))
      (pss_one (ps_ret (pe_tup (pa_cons (pv 1) (pa_cons (pe_callTy call_tuple_of (by rfl) T.tuple (by decide +kernel) (pa_cons
        (pe_lc (own := [("rule", 2)]) (g := gName 2) (tt := tYes) (by rfl) scXbo.nd (pi_tup (pe_ix ix_tup (pv 0) pe_int (fun _ _ => rfl))) (blkOk_by (own := [("rule", 2)]) (N := ["book", "kind", "rule"]) (sc := defScope sXbo) (by decide +kernel))
          (fun _ _ _ _ _ => pg_name (i := 2) scXbo.nd rfl (Or.inl rfl)) (fun _ _ _ _ _ => pts_nil)
          (fun _ _ _ _ _ => pe_call GX hr (by rfl) gX FX.kp bX .nil pass0 (pa_cons (pe_ix (ix_tupK K rfl) (pv 0) pe_int (fun _ _ => rfl)) (pa_cons (pv 2) pa_nil)))) pa_nil)) pa_nil)))))), ?_⟩
    obtain ⟨a, r, xs, rfl, hS, hR, hA⟩ := book_inv ht
    have hl : xs.length = rs.length := by rw [hA.len, List.length_map]
    -- kind = book[0]
    refine ⟨.ref a, rfl, a, _, 0, .str k.str, rfl, rfl, hS, atI_nat (j := 0) rfl, ?_⟩
    -- the ifs
    refine ⟨fun σ H' => H' = H ∧ σ = [some (.ref a), some (.str k.x.str), none], ?_, ?_⟩
    · refine ⟨_, rfl, rfl, _, rfl, ite2 (fun c => ?_) (fun c => ?_)⟩
      · obtain rfl : k = .f := kdF.mp c
        exact ⟨rfl, rfl⟩
      · refine ⟨_, rfl, rfl, _, rfl, ite2 (fun c2 => ?_) (fun c2 => ?_)⟩
        · obtain rfl : k = .n := kdN.mp c2
          exact ⟨rfl, rfl⟩
        · refine ⟨rfl, ?_⟩
          have e : k.x = k := by
            cases k
            · rfl
            · rfl
            · exact absurd (kdF.mpr rfl) c
            · exact absurd (kdN.mpr rfl) c2
          rw [e]
          rfl
    · rintro σ' H' ⟨rfl, rfl⟩
      refine ⟨_, rfl, .ref a, rfl, a, _, 1, .ref r, rfl, rfl, hS, atI_nat (j := 1) rfl, r, rfl, ⟨_, hR⟩, fun D hD => lc_tup (K := K) (a := r) (xs := xs) (fun i H2 => Lc K H' D ((rs.take i).map fun q => dR (xR q)) H2) (Lc.start hD) (fun i H2 _ l => same_sqT l.same hR) (fun i x H2 hx l => ?_) (fun H2 l => ?_)⟩
      · obtain ⟨y, hy, ty⟩ := hA.getM hx
        refine ⟨rfl, .ref a, rfl, a, _, 0, .str k.str, rfl, rfl, same_sqT l.same hS, atI_nat (j := 0) rfl, _, rfl, ?_⟩
        refine ⟨k, y, x, m, rfl, ho y (List.mem_of_getElem? hy), ty.same l.same, fun H3 u s3 t3 => ?_⟩
        rw [take_map _ hy]
        exact (l.on s3).put hD (by rw [List.length_map]; exact take_len _ _ (by omega)) t3
      · rw [hl, List.take_length, (show (rs.map fun q => dR (xR q)) = (rs.map xR).map dR by rw [List.map_map]; rfl)] at l
        obtain ⟨ys, h1, h2⟩ := l.tuple
        refine ⟨D, ys, rfl, .inl ⟨h1, fun p hp => ?_⟩⟩
        obtain ⟨s2, t2⟩ := h2 p hp
        refine ⟨(by show 2 ≤ sizeLine; decide), fun p2 hp2 => ?_⟩
        exact q _ _ (s2.trans (same_upd hp2)) (Tp.new (.two (.str _) t2) hp2)
end
end Ka

set_option Elab.async false
set_option linter.all false
set_option maxRecDepth 100000
set_option maxHeartbeats 400000
namespace Ka
open PySem PySem.Spec PyProof.Rows L2
theorem scRho : FnScope ["kind", "rule", "evening", "beacon", "lit", "way"] ["kind", "rule", "evening"] (defScope sRho) := ⟨rfl, rfl, rfl, by decide +kernel, rfl, by decide +kernel, by decide +kernel⟩
def spRho (K : PySem.W.Frag) : Sp := fun vs H Q _ => ∃ k r ev v e, vs = [.str (Kd.str k), v, e] ∧ okR k ev.length r ∧ Tp K H v (dR r) ∧ Tp K H e (dE ev) ∧ ∀ H', Same H H' → Q (.bl (holdsR k ev r)) H'
theorem any_take {α : Type} {l : List α} {i : Nat} {y : α} (p : α → Bool) (h : l[i]? = some y) (h1 : (l.take i).any p = false) (h2 : p y = false) : (l.take (i + 1)).any p = false := by
  rw [List.take_add_one, h, List.any_append, h1]
  show (false || [y].any p) = false
  rw [List.any_cons, h2]
  rfl
theorem any_of {α : Type} {l : List α} {i : Nat} {y : α} (p : α → Bool) (h : l[i]? = some y) (h2 : p y = true) : l.any p = true := List.any_eq_true.mpr ⟨y, List.mem_of_getElem? h, h2⟩
section
variable {P : Program} {w : World} {K : PySem.W.Frag} {mg : Str → Option Value} {base : Heap}
theorem ok_rho {f : Addr} {fd : FuncData} (F : Fun K "rule_holds" "rule_holds" sRho f fd) (T : Bl mg) : FnOk P w K mg base CX0 1 f fd ["kind", "rule", "evening"] (spRho K) := by
  refine F.ok scRho (fun vs H Q E h => ?_) (fun cdv A outer s H vs Q E hr h => ?_)
  · obtain ⟨k, r, ev, v, e, rfl, _⟩ := h
    rfl
  · obtain ⟨k, r, ev, v, e, rfl, ho, ht, he, q⟩ := h
    obtain ⟨ea, rfl, hE⟩ := evening_inv he
    refine ⟨_, pss_cons (ps_if (pt_cmpR op_eq (pv 0) pe_str (nomark _))
        (pss_cons (ps_for PassesOwn.never rfl (pi_tup (pv 1)) (pg_tup rfl (pgs_cons (pg_name (i := 3) scRho.nd rfl (Or.inl rfl)) (pgs_cons (pg_name (i := 4) scRho.nd rfl (Or.inl rfl)) pgs_nil)))
          (pss_one (ps_if (pt_cmpR op_eq (pe_ix ix_tup (pv 2) (pv 3) (fun _ _ => rfl)) (pv 4) (nomark _)) (pss_one (ps_ret pe_bl)) pss_nil)))
        (pss_one (ps_ret pe_bl))) pss_nil)
      (pss_cons (ps_if (pt_cmpR op_eq (pv 0) pe_str (nomark _))
        (pss_one (ps_ret (pe_cmpR op_eq (pe_cmpR op_eq (pe_op op_mod (pe_callB call_len_seq (by rfl) T.len PySem.boot_len (pa_cons
          (pe_lc (own := [("beacon", 3)]) (g := gName 3) (by rfl) scRho.nd (pi_tup (pe_ix ix_tup (pv 1) pe_int (fun _ _ => rfl))) (blkOk_by (own := [("beacon", 3)]) (N := ["kind", "rule", "evening", "beacon", "lit", "way"]) (sc := defScope sRho) (by decide +kernel))
            (fun _ _ _ _ _ => pg_name (i := 3) scRho.nd rfl (Or.inl rfl)) (fun _ _ _ _ _ => pts_one (pt_val (pe_ix (ix_tupK K rfl) (pv 2) (pv 3) (fun _ _ => rfl)))) (fun _ _ _ _ _ => pv 3)) pa_nil)) pe_int) pe_int (nomark _))
          (pe_ix ix_tup (pv 1) pe_int (fun _ _ => rfl)) (nomark _)))) pss_nil)
      (pss_cons (ps_set (i := 5) scRho.nd rfl (Or.inl rfl) (pe_cmpR op_eq (pv 0) pe_str (nomark _)))
      (pss_cons (ps_for PassesOwn.never rfl (pi_tup (pe_ix ix_tup (pv 1) pe_int (fun _ _ => rfl))) (pg_name (i := 3) scRho.nd rfl (Or.inl rfl))
          (pss_one (ps_if (pt_cmpR op_ne (pe_ix ix_tup (pv 2) (pv 3) (fun _ _ => rfl)) (pv 5) (nomark _)) (pss_one (ps_ret pe_bl)) pss_nil)))
      (pss_one (ps_ret (pe_and (pe_cmpR op_notN (pe_ix ix_tup (pv 1) pe_int (fun _ _ => rfl)) pe_non (nomark _))
        (pe_one (pe_cmpR op_eq (pe_ix ix_tup (pv 2) (pe_ix ix_tup (pv 1) pe_int (fun _ _ => rfl)) (fun _ _ => rfl)) (pv 5) (nomark _))))))))), ?_⟩
    refine ⟨_, rfl, rfl, _, rfl, ite2 (fun c => ?_) (fun c => ?_)⟩
    · obtain rfl : k = .e := kdE.mp c
      obtain ⟨ss, rfl, h2, hb⟩ := okE ho
      obtain ⟨a, xs, rfl, hS, hA⟩ := eithers_inv ht
      have hl : xs.length = ss.length := by rw [hA.len, List.length_map]
      refine ⟨.ref a, rfl, a, rfl, ⟨_, hS⟩, for_tup (K := K) (a := a) (xs := xs) (fun i σ H' => ∃ y3 y4, σ = [some (.str Kd.e.str), some (.ref a), some (.ref ea), y3, y4, none] ∧ H' = H ∧ (ss.take i).any (fun p => bitAt ev p.1 == p.2) = false)
        ⟨none, none, rfl, rfl, rfl⟩ (fun i σ H' _ ⟨_, _, _, e, _⟩ => by rw [e]; exact hS) ?_ ?_⟩
      · rintro i x σ H' hx ⟨y3, y4, rfl, rfl, hi⟩
        obtain ⟨p, hp, tp⟩ := hA.getM hx
        obtain ⟨t, rfl, hT⟩ := saying_inv tp
        have hpm := hb p (List.mem_of_getElem? hp)
        refine ⟨t, _, rfl, hT, rfl, _, _, rfl, _, _, rfl, rfl, ?_⟩
        refine ⟨_, rfl, .int (p.1 : Int), rfl, ea, _, _, _, rfl, rfl, hE, at_ev hpm, _, rfl, rfl, _, rfl, ite2 (fun c3 => ?_) (fun c3 => ?_)⟩
        · rw [eqB] at c3
          have e : holdsR .e ev (.e ss) = true := any_of _ hp c3
          have q' := q H' (Same.refl _)
          rw [e] at q'
          exact q'
        · rw [eqB] at c3
          exact ⟨_, _, rfl, rfl, any_take _ hp hi (by simpa using c3)⟩
      · rintro σ H' ⟨y3, y4, rfl, rfl, hi⟩
        rw [hl, List.take_length] at hi
        have q' := q H' (Same.refl _)
        rw [(show holdsR .e ev (.e ss) = false from hi)] at q'
        exact q'
    · refine ⟨_, rfl, rfl, _, rfl, ite2 (fun c2 => ?_) (fun c2 => ?_)⟩
      · obtain rfl : k = .s := kdS.mp c2
        obtain ⟨bs, odd, rfl, h2, hn, hb⟩ := okS ho
        obtain ⟨a, r, rfl, hS, hR⟩ := sums_inv ht
        refine ⟨.ref a, rfl, a, _, 0, .ref r, rfl, rfl, hS, atI_nat (j := 0) rfl, r, rfl, ⟨_, hR⟩, fun D hD => lc_tup (K := K) (a := r) (xs := bs.map vI) (fun i H' => Lc K H D (((bs.take i).filter (bitAt ev)).map dI) H') (Lc.start hD) (fun i H' _ l => same_sqT l.same hR) (fun i x H' hx l => ?_) (fun H' l => ?_)⟩
        · obtain ⟨b, hbi, rfl⟩ := map_get hx
          have hbm := hb b (List.mem_of_getElem? hbi)
          refine ⟨rfl, _, rfl, .int (b : Int), rfl, ea, _, _, _, rfl, rfl, same_sqT l.same hE, at_ev hbm, _, rfl, ?_⟩
          cases cb : bitAt ev b with
          | true =>
            rw [take_filT hbi cb, List.map_append]
            exact ⟨.int (b : Int), rfl, l.put hD (by rw [List.length_map]; exact Nat.le_trans (List.length_filter_le _ _) (take_len _ _ (by omega))) (.int _)⟩
          | false =>
            rw [take_filF hbi cb]
            exact l
        · obtain ⟨ys, h1, h3⟩ := l.seq
          rw [List.length_map, List.take_length] at h3
          have e3 : ys.length = (bs.filter (bitAt ev)).length := by rw [h3.len, List.length_map]
          refine ⟨D, ys, rfl, .inl h1, _, _, rfl, rfl, (by show (0 : Int) < 2; decide), rfl, ?_⟩
          refine ⟨.ref a, rfl, a, _, 1, .bl odd, rfl, rfl, same_sqT l.same hS, atI_nat (j := 1) rfl, rfl, ?_⟩
          rw [e3, parV, eqB]
          exact q H' l.same
      · have n1 : k ≠ .e := fun z => c (kdE.mpr z)
        have n2 : k ≠ .s := fun z => c2 (kdS.mpr z)
        obtain ⟨bs, hd, rfl, h2, hb, hh⟩ := okF n1 n2 ho
        obtain ⟨a, r, rfl, hS, hR⟩ := ifs_inv ht
        -- way = kind == 'ifs'
        refine ⟨_, rfl, rfl, ?_⟩
        have ew : decide (V.str k.str = V.str "ifs") = k.way := by
          cases k
          · exact absurd rfl n1
          · exact absurd rfl n2
          · exact kdF.mpr rfl
          · exact decide_eq_false fun z => by
              have := kdF (k := .n).mp (decide_eq_true z)
              cases this
        rw [ew]
        refine ⟨.ref a, rfl, a, _, 0, .ref r, rfl, rfl, hS, atI_nat (j := 0) rfl, r, rfl, ⟨_, hR⟩, for_tup (K := K) (a := r) (xs := bs.map vI)
          (fun i σ H' => ∃ y3 y4, σ = [some (.str k.str), some (.ref a), some (.ref ea), y3, y4, some (.bl k.way)] ∧ H' = H ∧ (bs.take i).any (fun b => bitAt ev b != k.way) = false)
          ⟨none, none, rfl, rfl, rfl⟩ (fun i σ H' _ ⟨_, _, _, e, _⟩ => by rw [e]; exact hR) ?_ ?_⟩
        · rintro i x σ H' hx ⟨y3, y4, rfl, rfl, hi⟩
          obtain ⟨b, hbi, rfl⟩ := map_get hx
          have hbm := hb b (List.mem_of_getElem? hbi)
          refine ⟨_, rfl, .int (b : Int), rfl, ea, _, _, _, rfl, rfl, hE, at_ev hbm, _, rfl, rfl, _, rfl, ite2 (fun c3 => ?_) (fun c3 => ?_)⟩
          · rw [neV] at c3
            have e : holdsR k ev (.f bs hd) = true := by
              show (bs.any _ || headHolds k.way ev hd) = true
              rw [any_of _ hbi c3]
              rfl
            have q' := q H' (Same.refl _)
            rw [e] at q'
            exact q'
          · rw [neV] at c3
            exact ⟨_, _, rfl, rfl, any_take _ hbi hi (by simpa using c3)⟩
        · rintro σ H' ⟨y3, y4, rfl, rfl, hi⟩
          rw [List.length_map, List.take_length] at hi
          have eh : holdsR k ev (.f bs hd) = headHolds k.way ev hd := by
            show (bs.any _ || headHolds k.way ev hd) = headHolds k.way ev hd
            rw [hi]
            rfl
          rw [eh] at q
          refine ⟨.ref a, rfl, a, _, 1, vH hd, rfl, rfl, hS, atI_nat (j := 1) rfl, rfl, ?_⟩
          cases hd with
          | none => exact ⟨_, rfl, q H' (Same.refl _)⟩
          | some b =>
            refine ⟨_, rfl, _, rfl, .ref a, rfl, a, _, 1, .int (b : Int), rfl, rfl, hS, atI_nat (j := 1) rfl, ea, _, _, _, rfl, rfl, hE, at_ev (hh b rfl), _, rfl, rfl, ?_⟩
            rw [eqB]
            exact q H' (Same.refl _)
end
end Ka

set_option Elab.async false
set_option linter.all false
set_option maxRecDepth 100000
set_option maxHeartbeats 400000
namespace Ka
open PySem PySem.Spec PyProof.Rows L2
theorem scBrk : FnScope ["book", "evening", "at", "rule"] ["book", "evening"] (defScope sBrk) := ⟨rfl, rfl, rfl, by decide +kernel, rfl, by decide +kernel, by decide +kernel⟩
/-- the places of the broken rules -/
abbrev brkL (k : Kd) (ev : List Bool) (rs : List Rl) : List Nat := brk (holdsR k ev) rs rs.length
def spBrk (K : PySem.W.Frag) : Sp := fun vs H Q _ => ∃ k rs ev v e, vs = [v, e] ∧ Ok k (List.length ev) rs ∧ rs.length ≤ 63 ∧ Tp K H v (dK k rs) ∧ Tp K H e (dE ev) ∧ ∀ H' p, Same H H' → SqL K H' p ((brkL k ev rs).map vI) → Q (.ref p) H'
section
variable {P : Program} {w : World} {K : PySem.W.Frag} {mg : Str → Option Value} {base : Heap}
theorem ok_brk {f fX : Addr} {fd fdX : FuncData} (F : Fun K "broken_rules" "broken_rules" sBrk f fd) (T : Bl mg) (FX : Fun K "rule_holds" "rule_holds" sRho fX fdX) (bX : Binds K fdX ["kind", "rule", "evening"] []) (gX : mg "rule_holds" = some (.ref fX)) :
    FnOk P w K mg base CX0 2 f fd ["book", "evening"] (spBrk K) := by
  have GX : FnOk P w K mg base CX0 1 fX fdX ["kind", "rule", "evening"] (spRho K) := ok_rho FX T
  refine F.ok scBrk (fun vs H Q E h => ?_) (fun cdv A outer s H vs Q E hr h => ?_)
  · obtain ⟨k, rs, ev, v, e, rfl, _⟩ := h
    rfl
  · obtain ⟨k, rs, ev, v, e, rfl, ho, hz, ht, he, q⟩ := h
    refine ⟨_, pss_one (ps_ret (pe_lc (own := [("at", 2), ("rule", 3)]) (g := gTup K 2 (gCons (gName 2) (gCons (gName 3) gNil))) (by rfl) scBrk.nd
      (pi_enumT (by rfl) T.enumerate (pa_cons (pe_ix ix_tup (pv 0) pe_int (fun _ _ => rfl)) pa_nil)) (blkOk_by (own := [("at", 2), ("rule", 3)]) (N := ["book", "evening", "at", "rule"]) (sc := defScope sBrk) (by decide +kernel))
      (fun _ _ _ _ _ => pg_tup rfl (pgs_cons (pg_name (i := 2) scBrk.nd rfl (Or.inl rfl)) (pgs_cons (pg_name (i := 3) scBrk.nd rfl (Or.inl rfl)) pgs_nil)))
      (fun _ _ _ _ _ => pts_one (pt_not (pt_val (pe_call GX hr (by rfl) gX FX.kp bX .nil pass0 (pa_cons (pe_ix (ix_tupK K rfl) (pv 0) pe_int (fun _ _ => rfl)) (pa_cons (pv 3) (pa_cons (pv 1) pa_nil)))))))
      (fun _ _ _ _ _ => pv 2))), ?_⟩
    obtain ⟨a, r, xs, rfl, hS, hR, hA⟩ := book_inv ht
    have hl : xs.length = rs.length := by rw [hA.len, List.length_map]
    refine ⟨.ref a, rfl, a, _, 1, .ref r, rfl, rfl, hS, atI_nat (j := 1) rfl, r, xs, rfl, hR, fun D hD => lc_it (walk_enumT (K := K) (a := r) (xs := xs)) (fun i H' => Lc K H D ((brk (holdsR k ev) rs i).map dI) H') (Lc.start hD)
      (fun i H' _ l => same_sqT l.same hR) (fun i x H' H2 hi l y => ?_) (fun H' l => ?_)⟩
    · obtain ⟨t, z1, z2, rfl, nT, rfl, e1, hx⟩ := y
      cases Option.some.inj e1
      obtain ⟨y, hy, ty⟩ := hA.getM hx
      have s2 := same_upd (o := .tup [V.int (i : Nat), z2]) nT
      refine ⟨t, _, rfl, .inl (.inl upd_same), rfl, _, _, rfl, _, _, rfl, rfl, rfl, ?_⟩
      refine ⟨.ref a, rfl, a, _, 0, .str k.str, rfl, rfl, same_sqT s2 (same_sqT l.same hS), atI_nat (j := 0) rfl, _, rfl, _, rfl, ?_⟩
      refine ⟨k, y, ev, z2, e, rfl, ho y (List.mem_of_getElem? hy), (ty.same l.same).same s2, (he.same l.same).same s2, fun H3 s3 => ⟨_, rfl, ?_⟩⟩
      have l3 := l.on (s2.trans s3)
      rw [brk_succ _ _ _ hy]
      cases c : holdsR k ev y with
      | true =>
        rw [if_pos rfl, List.append_nil]
        exact l3
      | false =>
        rw [if_neg (show ¬ false = true from Bool.false_ne_true), List.map_append]
        exact ⟨.int (i : Nat), rfl, l3.put hD (by rw [List.length_map]; exact Nat.le_trans (brk_le _ _ _) (by omega)) (.int _)⟩
    · rw [hl] at l
      obtain ⟨ys, h1, h3⟩ := l.seq
      have e3 := TpA.int_inv (f := fun b : Nat => (b : Int)) h3
      rw [e3] at h1
      exact q H' D l.same h1
end
end Ka

set_option Elab.async false
set_option linter.all false
set_option maxRecDepth 100000
set_option maxHeartbeats 400000
namespace Ka
open PySem PySem.Spec PyProof.Rows L2
theorem scHol : FnScope ["book", "evening"] ["book", "evening"] (defScope sHol) := ⟨rfl, rfl, rfl, by decide +kernel, rfl, by decide +kernel, by decide +kernel⟩
def spHol (K : PySem.W.Frag) : Sp := fun vs H Q _ => ∃ k rs ev v e, vs = [v, e] ∧ Ok k (List.length ev) rs ∧ rs.length ≤ 63 ∧ Tp K H v (dK k rs) ∧ Tp K H e (dE ev) ∧ ∀ H', Same H H' → Q (.bl (decide (brkL k ev rs = []))) H'
theorem dp_ints {K : PySem.W.Frag} {H : Hp} {p : Addr} {bs : List Nat} (h : SqL K H p (bs.map vI)) : Dp K H (.ref p) (.list (bs.map dI)) := .lst h (TpA.dp TpA.ints)
theorem fit_ints (bs : List Nat) : Fit 1 (.list (bs.map dI)) := Fit.lst (fit_map fun b => fit_int _)
theorem eqv_nil (bs : List Nat) : PyData.eqv (.list (bs.map dI)) (.list []) = decide (bs = []) := by
  cases bs with
  | nil =>
    rw [decide_eq_true rfl]
    simp only [List.map_nil, PyData.eqv, PyData.eqvAll]
  | cons b bs =>
    rw [decide_eq_false (fun q => nomatch q)]
    simp only [List.map_cons, PyData.eqv, PyData.eqvAll]
section
variable {P : Program} {w : World} {K : PySem.W.Frag} {mg : Str → Option Value} {base : Heap}
theorem ok_hol {f fX fY : Addr} {fd fdX fdY : FuncData} (F : Fun K "holds" "holds" sHol f fd) (T : Bl mg) (FY : Fun K "rule_holds" "rule_holds" sRho fY fdY) (bY : Binds K fdY ["kind", "rule", "evening"] []) (gY : mg "rule_holds" = some (.ref fY))
    (FX : Fun K "broken_rules" "broken_rules" sBrk fX fdX) (bX : Binds K fdX ["book", "evening"] []) (gX : mg "broken_rules" = some (.ref fX)) : FnOk P w K mg base CX0 3 f fd ["book", "evening"] (spHol K) := by
  have GX : FnOk P w K mg base CX0 2 fX fdX ["book", "evening"] (spBrk K) := ok_brk FX T FY bY gY
  refine F.ok scHol (fun vs H Q E h => ?_) (fun cdv A outer s H vs Q E hr h => ?_)
  · obtain ⟨k, rs, ev, v, e, rfl, _⟩ := h
    rfl
  · obtain ⟨k, rs, ev, v, e, rfl, ho, hz, ht, he, q⟩ := h
    refine ⟨_, pss_one (ps_ret (pe_cmpR (op_eqD hr.units) (pe_call GX hr (by rfl) gX FX.kp bX .nil pass0 (pa_cons (pv 0) (pa_cons (pv 1) pa_nil))) (pe_lst pa_nil) (nomark _))), ?_⟩
    refine ⟨v, rfl, e, rfl, k, rs, ev, v, e, rfl, ho, hz, ht, he, fun H1 p s1 hp => ?_⟩
    refine ⟨Nat.zero_le _, fun n hn => ?_⟩
    have s2 := same_upd (o := .lst []) hn
    refine ⟨_, _, dp_ints (s2.seq hp), .lst (.inl (.inl upd_same)) .nil, (fit_ints _).shaped (by decide), (fit_ints []).shaped (by decide), ?_⟩
    rw [eqv_nil]
    exact q _ (s1.trans s2)
end
end Ka

set_option Elab.async false
set_option linter.all false
set_option maxRecDepth 100000
set_option maxHeartbeats 400000
namespace Ka
open PySem PySem.Spec PyProof.Rows L2
theorem scEil : FnScope ["rule", "beacon", "lit", "saying"] ["rule", "beacon", "lit"] (defScope sEil) := ⟨rfl, rfl, rfl, by decide +kernel, rfl, by decide +kernel, by decide +kernel⟩
def dO : Option Rl → PyData
  | none => .none
  | some r => dR r
def spEil (K : PySem.W.Frag) : Sp := fun vs H Q _ => ∃ ss v b l, vs = [v, vI b, .bl l] ∧ List.length ss ≤ 2 ∧ Tp K H v (dR (.e ss)) ∧ ∀ H' u, Same H H' → Tp K H' u (dO (leftE b l ss)) → Q u H'
theorem any_S (p : Nat × Bool) : ∀ ss : List (Nat × Bool), ((ss.map dS).any fun z => PyData.eqv z (dS p)) = decide (p ∈ ss)
  | [] => (decide_eq_false List.not_mem_nil).symm
  | q :: ss => by
    rw [List.map_cons, List.any_cons, eqv_S, any_S p ss]
    by_cases h : q = p
    · have m : p ∈ q :: ss := by
        rw [h]
        exact List.mem_cons_self
      rw [decide_eq_true h, decide_eq_true m]
      exact Bool.true_or _
    · rw [decide_eq_false h, Bool.false_or]
      by_cases m : p ∈ ss
      · rw [decide_eq_true m, decide_eq_true (List.mem_cons_of_mem _ m)]
      · rw [decide_eq_false m, decide_eq_false fun z => ?_]
        rcases List.mem_cons.mp z with e | e
        · exact h e.symm
        · exact m e
theorem neI (a b : Nat) : (!decide (V.int (a : Int) = V.int (b : Int))) = (a != b) := by
  by_cases h : a = b
  · subst h
    rw [decide_eq_true rfl, bne_self_eq_false]
    rfl
  · have e : decide (V.int (a : Int) = V.int (b : Int)) = false := decide_eq_false fun z => h (by have := V.int.inj z; omega)
    rw [e, bne_iff_ne.mpr h]
    rfl
section
variable {P : Program} {w : World} {K : PySem.W.Frag} {mg : Str → Option Value} {base : Heap}
theorem ok_eil {f : Addr} {fd : FuncData} (F : Fun K "either_left" "either_left" sEil f fd) (T : Bl mg) : FnOk P w K mg base CX0 1 f fd ["rule", "beacon", "lit"] (spEil K) := by
  refine F.ok scEil (fun vs H Q E h => ?_) (fun cdv A outer s H vs Q E hr h => ?_)
  · obtain ⟨ss, v, b, l, rfl, _⟩ := h
    rfl
  · obtain ⟨ss, v, b, l, rfl, h2, ht, q⟩ := h
    have hu : (A.deeper (envOfC "either_left" (defScope sEil) s.heap.objs.size f cdv)).units + 65 < cLine := by
      have := hr.un
      omega
    refine ⟨_, pss_cons (ps_if (pt_cmpR (op_inT hu) (pe_tup (pa_cons (pv 1) (pa_cons (pv 2) pa_nil))) (pv 0) (by rfl)) (pss_one (ps_ret pe_non)) pss_nil)
      (pss_one (ps_ret (pe_callTy call_tuple_of (by rfl) T.tuple (by decide +kernel) (pa_cons
        (pe_lc (own := [("saying", 3)]) (g := gName 3) (by rfl) scEil.nd (pi_tup (pv 0)) (blkOk_by (own := [("saying", 3)]) (N := ["rule", "beacon", "lit", "saying"]) (sc := defScope sEil) (by decide +kernel))
          (fun _ _ _ _ _ => pg_name (i := 3) scEil.nd rfl (Or.inl rfl)) (fun _ _ _ _ _ => pts_one (pt_cmpR op_ne (pe_ix (ix_tupK K rfl) (pv 3) pe_int (fun _ _ => rfl)) (pv 1) (nomark _)))
          (fun _ _ _ _ _ => pv 3)) pa_nil)))), ?_⟩
    obtain ⟨a, xs, rfl, hS, hA⟩ := eithers_inv ht
    have hl : xs.length = ss.length := by rw [hA.len, List.length_map]
    refine ⟨_, rfl, _, rfl, (by show 2 ≤ sizeLine; decide), fun n hn => ?_⟩
    have s1 := same_upd (o := .tup [vI b, .bl l]) hn
    refine ⟨_, rfl, dS (b, l), ss.map dS, (Tp.new (.two (.int _) (.bl _)) hn).dp, (ht.same s1).dp, (fit_S _).shaped (by decide), (fit_R (.e ss)).shaped (by decide), _, rfl, ?_⟩
    rw [any_S]
    by_cases hm : (b, l) ∈ ss
    · rw [decide_eq_true hm]
      refine q _ _ s1 ?_
      rw [(show leftE b l ss = none from if_pos hm)]
      exact .non
    · rw [decide_eq_false hm]
      have e : leftE b l ss = some (.e (ss.filter fun p => p.1 != b)) := if_neg hm
      rw [e] at q
      refine ⟨.ref a, rfl, a, rfl, ⟨_, same_sqT s1 hS⟩, fun D hD => lc_tup (K := K) (a := a) (xs := xs) (fun i H' => Lc K (upd H n (.tup [vI b, .bl l])) D (((ss.take i).filter fun p => p.1 != b).map dS) H') (Lc.start hD)
        (fun i H' _ l => same_sqT (s1.trans l.same) hS) (fun i x H' hx l => ?_) (fun H' l => ?_)⟩
      · obtain ⟨p, hp, tp⟩ := hA.getM hx
        obtain ⟨t, rfl, hT⟩ := saying_inv tp
        refine ⟨rfl, _, rfl, t, _, 0, .int (p.1 : Int), rfl, rfl, same_sqT (s1.trans l.same) hT, atI_nat (j := 0) rfl, _, rfl, rfl, _, rfl, ?_⟩
        have en : (!decide (V.int (p.1 : Int) = vI b)) = (p.1 != b) := neI p.1 b
        rw [en]
        cases c : (p.1 != b) with
        | true =>
          rw [take_filT (p := fun p => p.1 != b) hp c, List.map_append]
          exact ⟨.ref t, rfl, l.put hD (by rw [List.length_map]; exact Nat.le_trans (List.length_filter_le _ _) (take_len _ _ (by omega))) (tp.same (s1.trans l.same))⟩
        | false =>
          rw [take_filF (p := fun p => p.1 != b) hp c]
          exact l
      · rw [hl, List.take_length] at l
        obtain ⟨ys, h1, h3⟩ := l.tuple
        refine ⟨D, ys, rfl, .inl ⟨h1, fun p hp => ?_⟩⟩
        obtain ⟨s2, t2⟩ := h3 p hp
        exact q _ _ (s1.trans s2) t2
end
end Ka

set_option Elab.async false
set_option linter.all false
set_option maxRecDepth 100000
set_option maxHeartbeats 400000
namespace Ka
open PySem PySem.Spec PyProof.Rows L2
theorem scSul : FnScope ["rule", "beacon", "lit", "beacons", "odd", "at"] ["rule", "beacon", "lit"] (defScope sSul) := ⟨rfl, rfl, rfl, by decide +kernel, rfl, by decide +kernel, by decide +kernel⟩
def spSul (K : PySem.W.Frag) : Sp := fun vs H Q _ => ∃ bs odd v b l, vs = [v, vI b, .bl l] ∧ List.length bs ≤ 6 ∧ Tp K H v (dR (.s bs odd)) ∧ ∀ H' u, Same H H' → Tp K H' u (dO (leftS b l bs odd)) → Q u H'
theorem flat_ints : ∀ bs : List Nat, (bs.map vI).all flatV = true
  | [] => rfl
  | b :: bs => by
    rw [List.map_cons, List.all_cons, flat_ints bs]
    rfl
theorem eqV_int (a b : Nat) : eqV (vI a) (vI b) = decide (a = b) := by
  show ((a : Int) == (b : Int)) = decide (a = b)
  by_cases h : a = b
  · subst h
    rw [decide_eq_true rfl, beq_self_eq_true]
  · rw [decide_eq_false h, beq_eq_false_iff_ne.mpr (by omega)]
theorem inV_int (b : Nat) : ∀ bs : List Nat, inV (vI b) (bs.map vI) = decide (b ∈ bs)
  | [] => (decide_eq_false List.not_mem_nil).symm
  | a :: bs => by
    have ih := inV_int b bs
    unfold inV at ih ⊢
    rw [List.map_cons, List.any_cons, ih, eqV_int]
    by_cases h : a = b
    · have m : b ∈ a :: bs := by
        rw [h]
        exact List.mem_cons_self
      rw [decide_eq_true h, decide_eq_true m]
      exact Bool.true_or _
    · rw [decide_eq_false h, Bool.false_or]
      by_cases m : b ∈ bs
      · rw [decide_eq_true m, decide_eq_true (List.mem_cons_of_mem _ m)]
      · rw [decide_eq_false m, decide_eq_false fun z => ?_]
        rcases List.mem_cons.mp z with e | e
        · exact h e.symm
        · exact m e
theorem eqv_tnil (bs : List Nat) : PyData.eqv (dB bs) (.tuple []) = decide (bs = []) := by
  unfold dB
  cases bs with
  | nil =>
    rw [decide_eq_true rfl]
    simp only [List.map_nil, PyData.eqv, PyData.eqvAll]
  | cons b bs =>
    rw [decide_eq_false (fun q => nomatch q)]
    simp only [List.map_cons, PyData.eqv, PyData.eqvAll]
section
variable {P : Program} {w : World} {K : PySem.W.Frag} {mg : Str → Option Value} {base : Heap}
theorem ok_sul {f : Addr} {fd : FuncData} (F : Fun K "sum_left" "sum_left" sSul f fd) (T : Bl mg) : FnOk P w K mg base CX0 1 f fd ["rule", "beacon", "lit"] (spSul K) := by
  refine F.ok scSul (fun vs H Q E h => ?_) (fun cdv A outer s H vs Q E hr h => ?_)
  · obtain ⟨bs, odd, v, b, l, rfl, _⟩ := h
    rfl
  · obtain ⟨bs, odd, v, b, l, rfl, h6, ht, q⟩ := h
    refine ⟨_, pss_cons (ps_if (pt_cmpR op_notIn_seq (pv 1) (pe_ix ix_tup (pv 0) pe_int (fun _ _ => rfl)) (by rfl)) (pss_one (ps_ret (pv 0))) pss_nil)
      (pss_cons (ps_set (i := 3) scSul.nd rfl (Or.inl rfl) (pe_callTy call_tuple_of (by rfl) T.tuple (by decide +kernel) (pa_cons
        (pe_lc (own := [("at", 5)]) (g := gName 5) (by rfl) scSul.nd (pi_tup (pe_ix ix_tup (pv 0) pe_int (fun _ _ => rfl))) (blkOk_by (own := [("at", 5)]) (N := ["rule", "beacon", "lit", "beacons", "odd", "at"]) (sc := defScope sSul) (by decide +kernel))
          (fun _ _ _ _ _ => pg_name (i := 5) scSul.nd rfl (Or.inl rfl)) (fun _ _ _ _ _ => pts_one (pt_cmpR op_ne (pv 5) (pv 1) (nomark _))) (fun _ _ _ _ _ => pv 5)) pa_nil)))
      (pss_cons (ps_set (i := 4) scSul.nd rfl (Or.inl rfl) (pe_cmpR op_ne (pe_ix ix_tup (pv 0) pe_int (fun _ _ => rfl)) (pv 2) (nomark _)))
      (pss_cons (ps_if (PW.pt (pw_and (pt_cmpR (op_eqD hr.units) (pv 3) (pe_tup pa_nil) (nomark _)) (pw_and1 (pt_not (pt_val (pv 4)))))) (pss_one (ps_ret pe_non)) pss_nil)
      (pss_one (ps_ret (pe_tup (pa_cons (pv 3) (pa_cons (pv 4) pa_nil)))))))), ?_⟩
    obtain ⟨a, r, rfl, hS, hR⟩ := sums_inv ht
    refine ⟨_, rfl, .ref a, rfl, a, _, 0, .ref r, rfl, rfl, hS, atI_nat (j := 0) rfl, r, _, rfl, .inr hR, rfl, flat_ints bs, _, rfl, ?_⟩
    by_cases hm : b ∈ bs
    · rw [if_pos rfl, inV_int, decide_eq_true hm]
      -- beacons = tuple([..])
      refine ⟨.ref a, rfl, a, _, 0, .ref r, rfl, rfl, hS, atI_nat (j := 0) rfl, r, rfl, ⟨_, hR⟩, fun D hD => lc_tup (K := K) (a := r) (xs := bs.map vI) (fun i H' => Lc K H D (((bs.take i).filter fun p => p != b).map dI) H') (Lc.start hD)
        (fun i H' _ lc => same_sqT lc.same hR) (fun i x H' hx lc => ?_) (fun H' lc => ?_)⟩
      · obtain ⟨c, hc, rfl⟩ := map_get hx
        refine ⟨rfl, _, rfl, _, rfl, rfl, _, rfl, ?_⟩
        have en : (!decide (vI c = vI b)) = (c != b) := neI c b
        rw [en]
        cases e : (c != b) with
        | true =>
          rw [take_filT (p := fun p => p != b) hc e, List.map_append]
          exact ⟨_, rfl, lc.put hD (by rw [List.length_map]; exact Nat.le_trans (List.length_filter_le _ _) (take_len _ _ (by omega))) (.int _)⟩
        | false =>
          rw [take_filF (p := fun p => p != b) hc e]
          exact lc
      · rw [List.length_map, List.take_length] at lc
        obtain ⟨ys, h1, h3⟩ := lc.tuple
        refine ⟨D, ys, rfl, .inl ⟨h1, fun p hp => ?_⟩⟩
        obtain ⟨s2, t2⟩ := h3 p hp
        have t2 : Tp K (upd H' p (.tup ys)) (.ref p) (dB (bs.filter fun p => p != b)) := t2
        -- odd = rule[1] != lit
        refine ⟨.ref a, rfl, a, _, 1, .bl odd, rfl, rfl, same_sqT s2 hS, atI_nat (j := 1) rfl, _, rfl, rfl, ?_⟩
        rw [neV]
        -- if beacons == () and not odd
        refine ⟨_, rfl, Nat.zero_le _, fun n hn => ?_⟩
        have s3 := same_upd (o := .tup []) hn
        refine ⟨_, _, (t2.same s3).dp, .tup (.inl (.inl upd_same)) .nil, (fit_B _).shaped (by decide), (fit_B []).shaped (by decide), _, rfl, ?_⟩
        rw [eqv_tnil]
        have el : leftS b l bs odd = if (bs.filter fun a => a != b) = [] ∧ (odd != l) = false then none else some (.s (bs.filter fun a => a != b) (odd != l)) := if_pos hm
        rw [el] at q
        by_cases he : (bs.filter fun a => a != b) = []
        · rw [decide_eq_true he]
          refine ⟨_, rfl, _, rfl, ?_⟩
          cases ho : (odd != l) with
          | true =>
            rw [if_neg (fun z => by rw [ho] at z; cases z.2)] at q
            refine ⟨_, rfl, _, rfl, (by show 2 ≤ sizeLine; decide), fun m hm2 => ?_⟩
            rw [← ho]
            exact q _ _ (s2.trans (s3.trans (same_upd hm2))) (Tp.new (.two (t2.same s3) (.bl _)) hm2)
          | false =>
            rw [if_pos ⟨he, ho⟩] at q
            exact q _ _ (s2.trans s3) .non
        · rw [decide_eq_false he]
          rw [if_neg (fun z => he z.1)] at q
          refine ⟨_, rfl, _, rfl, (by show 2 ≤ sizeLine; decide), fun m hm2 => ?_⟩
          exact q _ _ (s2.trans (s3.trans (same_upd hm2))) (Tp.new (.two (t2.same s3) (.bl _)) hm2)
    · rw [if_pos rfl, inV_int, decide_eq_false hm]
      have el : leftS b l bs odd = some (.s bs odd) := if_neg hm
      rw [el] at q
      exact ⟨_, rfl, q _ _ (Same.refl _) ht⟩
end
end Ka

set_option Elab.async false
set_option linter.all false
set_option maxRecDepth 100000
set_option maxHeartbeats 400000
namespace Ka
open PySem PySem.Spec PyProof.Rows L2
theorem scIfl : FnScope ["rule", "beacon", "so", "head", "at"] ["rule", "beacon", "so"] (defScope sIfl) := ⟨rfl, rfl, rfl, by decide +kernel, rfl, by decide +kernel, by decide +kernel⟩
def spIfl (K : PySem.W.Frag) : Sp := fun vs H Q _ => ∃ bs hd v b so, vs = [v, vI b, .bl so] ∧ List.length bs ≤ 6 ∧ Tp K H v (dR (.f bs hd)) ∧ ∀ H' u, Same H H' → Tp K H' u (dO (leftF b so bs hd)) → Q u H'
theorem scal_H (hd : Option Nat) (b : Nat) : scal (vH hd) (vI b) = true := by cases hd <;> rfl
theorem eqH (hd : Option Nat) (b : Nat) : decide (vH hd = vI b) = decide (hd = some b) := by
  cases hd with
  | none => rw [decide_eq_false (fun z => nomatch z), decide_eq_false (fun z => nomatch z)]
  | some c =>
    by_cases h : c = b
    · subst h
      exact (decide_eq_true (show vH (some c) = vI c from rfl)).trans (decide_eq_true rfl).symm
    · have e : decide (vH (some c) = vI b) = false := decide_eq_false fun z => h (by have := V.int.inj z; omega)
      rw [e, decide_eq_false fun z => h (Option.some.inj z)]
section
variable {P : Program} {w : World} {K : PySem.W.Frag} {mg : Str → Option Value} {base : Heap}
theorem ok_ifl {f : Addr} {fd : FuncData} (F : Fun K "if_left" "if_left" sIfl f fd) (T : Bl mg) : FnOk P w K mg base CX0 1 f fd ["rule", "beacon", "so"] (spIfl K) := by
  refine F.ok scIfl (fun vs H Q E h => ?_) (fun cdv A outer s H vs Q E hr h => ?_)
  · obtain ⟨bs, hd, v, b, so, rfl, _⟩ := h
    rfl
  · obtain ⟨bs, hd, v, b, so, rfl, h6, ht, q⟩ := h
    refine ⟨_, C8.pss_cut (ps_if (PW.pt (pw_or (PW.pt (pw_and (pt_cmpR op_eq (pe_ix ix_tup (pv 0) pe_int (fun _ _ => rfl)) (pv 1) (nomark _)) (pw_and1 (pt_val (pv 2)))))
        (pw_or1 (PW.pt (pw_and (pt_cmpR op_in_seq (pv 1) (pe_ix ix_tup (pv 0) pe_int (fun _ _ => rfl)) (by rfl)) (pw_and1 (pt_not (pt_val (pv 2))))))))) (pss_one (ps_ret pe_non)) pss_nil)
      (pss_cons (ps_set (i := 3) scIfl.nd rfl (Or.inl rfl) (pe_ix ix_tup (pv 0) pe_int (fun _ _ => rfl)))
      (C8.pss_cut (ps_if (pt_cmpR op_eq (pv 3) (pv 1) (nomark _)) (pss_one (ps_set (i := 3) scIfl.nd rfl (Or.inl rfl) pe_non)) pss_nil)
      (pss_one (ps_ret (pe_tup (pa_cons (pe_callTy call_tuple_of (by rfl) T.tuple (by decide +kernel) (pa_cons
        (pe_lc (own := [("at", 4)]) (g := gName 4) (by rfl) scIfl.nd (pi_tup (pe_ix ix_tup (pv 0) pe_int (fun _ _ => rfl))) (blkOk_by (own := [("at", 4)]) (N := ["rule", "beacon", "so", "head", "at"]) (sc := defScope sIfl) (by decide +kernel))
          (fun _ _ _ _ _ => pg_name (i := 4) scIfl.nd rfl (Or.inl rfl)) (fun _ _ _ _ _ => pts_one (pt_cmpR op_ne (pv 4) (pv 1) (nomark _))) (fun _ _ _ _ _ => pv 4)) pa_nil)) (pa_cons (pv 3) pa_nil))))))), ?_⟩
    obtain ⟨a, r, rfl, hS, hR⟩ := ifs_inv ht
    have gone : (hd = some b ∧ so = true) ∨ (b ∈ bs ∧ so = false) → Q .non H := fun c => by
      refine q _ _ (Same.refl _) ?_
      rw [(show leftF b so bs hd = none from if_pos c)]
      exact .non
    have inA : ∀ {R : Bool → Hp → Prop}, R (decide (b ∈ bs)) H → tTest (tOp (rIn K false) (tVar 1) (tOp (rIxT K) (tVar 0) (tC (.int 0)))) [some (.ref a), some (vI b), some (.bl so), none, none] H R := fun {R} h => by
      refine ⟨_, rfl, .ref a, rfl, a, _, 0, .ref r, rfl, rfl, hS, atI_nat (j := 0) rfl, r, _, rfl, .inr hR, rfl, flat_ints bs, _, rfl, ?_⟩
      rw [if_neg Bool.false_ne_true, inV_int]
      exact h
    refine ⟨fun σ H' => H' = H ∧ σ = [some (.ref a), some (vI b), some (.bl so), none, none] ∧ ¬ ((hd = some b ∧ so = true) ∨ (b ∈ bs ∧ so = false)), ?_, ?_⟩
    · refine ⟨.ref a, rfl, a, _, 1, vH hd, rfl, rfl, hS, atI_nat (j := 1) rfl, vI b, rfl, scal_H hd b, _, rfl, ?_⟩
      rw [eqH]
      by_cases h1 : hd = some b
      · rw [decide_eq_true h1]
        refine ⟨_, rfl, _, rfl, ?_⟩
        cases so with
        | true => exact gone (.inl ⟨h1, rfl⟩)
        | false =>
          refine inA ?_
          by_cases h2 : b ∈ bs
          · rw [decide_eq_true h2]
            exact ⟨_, rfl, _, rfl, gone (.inr ⟨h2, rfl⟩)⟩
          · rw [decide_eq_false h2]
            refine ⟨rfl, rfl, fun z => ?_⟩
            rcases z with z | z
            · cases z.2
            · exact h2 z.1
      · rw [decide_eq_false h1]
        refine inA ?_
        by_cases h2 : b ∈ bs
        · rw [decide_eq_true h2]
          refine ⟨_, rfl, _, rfl, ?_⟩
          cases so with
          | true =>
            refine ⟨rfl, rfl, fun z => ?_⟩
            rcases z with z | z
            · exact h1 z.1
            · cases z.2
          | false => exact gone (.inr ⟨h2, rfl⟩)
        · rw [decide_eq_false h2]
          refine ⟨rfl, rfl, fun z => ?_⟩
          rcases z with z | z
          · exact h1 z.1
          · exact h2 z.1
    · rintro σ' H' ⟨rfl, rfl, hc⟩
      rw [(show leftF b so bs hd = some (.f (bs.filter fun a => a != b) (if hd = some b then none else hd)) from if_neg hc)] at q
      -- head = rule[1]
      refine ⟨.ref a, rfl, a, _, 1, vH hd, rfl, rfl, hS, atI_nat (j := 1) rfl, ?_⟩
      refine ⟨fun σ H2 => H2 = H' ∧ σ = [some (.ref a), some (vI b), some (.bl so), some (vH (if hd = some b then none else hd)), none], ?_, ?_⟩
      · refine ⟨_, rfl, vI b, rfl, scal_H hd b, _, rfl, ?_⟩
        rw [eqH]
        by_cases h1 : hd = some b
        · rw [decide_eq_true h1, if_pos h1]
          exact ⟨rfl, rfl⟩
        · rw [decide_eq_false h1, if_neg h1]
          exact ⟨rfl, rfl⟩
      · rintro σ2 H2 ⟨rfl, rfl⟩
        refine ⟨.ref a, rfl, a, _, 0, .ref r, rfl, rfl, hS, atI_nat (j := 0) rfl, r, rfl, ⟨_, hR⟩, fun D hD => lc_tup (K := K) (a := r) (xs := bs.map vI) (fun i H' => Lc K H2 D (((bs.take i).filter fun p => p != b).map dI) H') (Lc.start hD)
          (fun i H' _ lc => same_sqT lc.same hR) (fun i x H' hx lc => ?_) (fun H' lc => ?_)⟩
        · obtain ⟨c, hc, rfl⟩ := map_get hx
          refine ⟨rfl, _, rfl, _, rfl, rfl, _, rfl, ?_⟩
          have en : (!decide (vI c = vI b)) = (c != b) := neI c b
          rw [en]
          cases e : (c != b) with
          | true =>
            rw [take_filT (p := fun p => p != b) hc e, List.map_append]
            exact ⟨_, rfl, lc.put hD (by rw [List.length_map]; exact Nat.le_trans (List.length_filter_le _ _) (take_len _ _ (by omega))) (.int _)⟩
          | false =>
            rw [take_filF (p := fun p => p != b) hc e]
            exact lc
        · rw [List.length_map, List.take_length] at lc
          obtain ⟨ys, h1, h3⟩ := lc.tuple
          refine ⟨D, ys, rfl, .inl ⟨h1, fun p hp => ?_⟩⟩
          obtain ⟨s2, t2⟩ := h3 p hp
          refine ⟨_, rfl, (by show 2 ≤ sizeLine; decide), fun m hm => ?_⟩
          exact q _ _ (s2.trans (same_upd hm)) (Tp.new (.two t2 (head_tp _)) hm)
end
end Ka

set_option Elab.async false
set_option linter.all false
set_option maxRecDepth 100000
set_option maxHeartbeats 400000
namespace Ka
open PySem PySem.Spec PyProof.Rows L2
theorem scRul : FnScope ["kind", "rule", "beacon", "lit"] ["kind", "rule", "beacon", "lit"] (defScope sRul) := ⟨rfl, rfl, rfl, by decide +kernel, rfl, by decide +kernel, by decide +kernel⟩
def spRul (K : PySem.W.Frag) : Sp := fun vs H Q _ => ∃ k r v m b l, vs = [.str (Kd.str k), v, vI b, .bl l] ∧ okR k m r ∧ Tp K H v (dR r) ∧ ∀ H' u, Same H H' → Tp K H' u (dO (leftR k b l r)) → Q u H'
section
variable {P : Program} {w : World} {K : PySem.W.Frag} {mg : Str → Option Value} {base : Heap}
theorem ok_rul {f f1 f2 f3 : Addr} {fd fd1 fd2 fd3 : FuncData} (F : Fun K "rule_left" "rule_left" sRul f fd) (T : Bl mg)
    (F1 : Fun K "either_left" "either_left" sEil f1 fd1) (b1 : Binds K fd1 ["rule", "beacon", "lit"] []) (g1 : mg "either_left" = some (.ref f1))
    (F2 : Fun K "sum_left" "sum_left" sSul f2 fd2) (b2 : Binds K fd2 ["rule", "beacon", "lit"] []) (g2 : mg "sum_left" = some (.ref f2))
    (F3 : Fun K "if_left" "if_left" sIfl f3 fd3) (b3 : Binds K fd3 ["rule", "beacon", "so"] []) (g3 : mg "if_left" = some (.ref f3)) : FnOk P w K mg base CX0 2 f fd ["kind", "rule", "beacon", "lit"] (spRul K) := by
  have G1 : FnOk P w K mg base CX0 1 f1 fd1 ["rule", "beacon", "lit"] (spEil K) := ok_eil F1 T
  have G2 : FnOk P w K mg base CX0 1 f2 fd2 ["rule", "beacon", "lit"] (spSul K) := ok_sul F2 T
  have G3 : FnOk P w K mg base CX0 1 f3 fd3 ["rule", "beacon", "so"] (spIfl K) := ok_ifl F3 T
  refine F.ok scRul (fun vs H Q E h => ?_) (fun cdv A outer s H vs Q E hr h => ?_)
  · obtain ⟨k, r, v, m, b, l, rfl, _⟩ := h
    rfl
  · obtain ⟨k, r, v, m, b, l, rfl, ho, ht, q⟩ := h
    refine ⟨_, pss_cons (ps_if (pt_cmpR op_eq (pv 0) pe_str (nomark _)) (pss_one (ps_ret (pe_call G1 hr (by rfl) g1 F1.kp b1 .nil pass0 (pa_cons (pv 1) (pa_cons (pv 2) (pa_cons (pv 3) pa_nil)))))) pss_nil)
      (pss_cons (ps_if (pt_cmpR op_eq (pv 0) pe_str (nomark _)) (pss_one (ps_ret (pe_call G2 hr (by rfl) g2 F2.kp b2 .nil pass0 (pa_cons (pv 1) (pa_cons (pv 2) (pa_cons (pv 3) pa_nil)))))) pss_nil)
      (pss_one (ps_ret (pe_call G3 hr (by rfl) g3 F3.kp b3 .nil pass0 (pa_cons (pv 1) (pa_cons (pv 2) (pa_cons (pe_cmpR op_eq (pv 3) (pe_cmpR op_eq (pv 0) pe_str (nomark _)) (nomark _)) pa_nil))))))), ?_⟩
    refine ⟨_, rfl, rfl, _, rfl, ite2 (fun c => ?_) (fun c => ?_)⟩
    · obtain rfl : k = .e := kdE.mp c
      obtain ⟨ss, rfl, h2, hb⟩ := okE ho
      exact ⟨_, rfl, _, rfl, _, rfl, ss, v, b, l, rfl, h2, ht, q⟩
    · refine ⟨_, rfl, rfl, _, rfl, ite2 (fun c2 => ?_) (fun c2 => ?_)⟩
      · obtain rfl : k = .s := kdS.mp c2
        obtain ⟨bs, odd, rfl, h2, hn, hb⟩ := okS ho
        exact ⟨_, rfl, _, rfl, _, rfl, bs, odd, v, b, l, rfl, h2, ht, q⟩
      · have n1 : k ≠ .e := fun z => c (kdE.mpr z)
        have n2 : k ≠ .s := fun z => c2 (kdS.mpr z)
        obtain ⟨bs, hd, rfl, h2, hb, hh⟩ := okF n1 n2 ho
        have ew : decide (V.bl l = V.bl (decide (V.str k.str = V.str "ifs"))) = (l == k.way) := by
          rw [eqB]
          congr 1
          cases k
          · exact absurd rfl n1
          · exact absurd rfl n2
          · exact kdF.mpr rfl
          · exact decide_eq_false fun z => by
              have := kdF (k := .n).mp (decide_eq_true z)
              cases this
        refine ⟨_, rfl, _, rfl, _, rfl, _, rfl, rfl, rfl, bs, hd, v, b, l == k.way, ?_, h2, ht, q⟩
        rw [ew]
        rfl
end
end Ka

set_option Elab.async false
set_option linter.all false
set_option maxRecDepth 100000
set_option maxHeartbeats 400000
namespace Ka
open PySem PySem.Spec PyProof.Rows L2
theorem scLeb : FnScope ["book", "beacon", "lit", "rules", "rule"] ["book", "beacon", "lit"] (defScope sLeb) := ⟨rfl, rfl, rfl, by decide +kernel, rfl, by decide +kernel, by decide +kernel⟩
def spLeb (K : PySem.W.Frag) : Sp := fun vs H Q _ => ∃ k rs v m b l, vs = [v, vI b, .bl l] ∧ Ok k m rs ∧ rs.length ≤ 63 ∧ Tp K H v (dK k rs) ∧ ∀ H' u, Same H H' → Tp K H' u (dK k (rs.filterMap (leftR k b l))) → Q u H'
theorem tp_ref {K : PySem.W.Frag} {H : Hp} {v : V} {r : Rl} (h : Tp K H v (dR r)) : v ≠ .non := by
  cases r with
  | e ss => obtain ⟨a, xs, rfl, _⟩ := h.inv; exact fun z => nomatch z
  | s bs odd => obtain ⟨a, xs, rfl, _⟩ := h.inv; exact fun z => nomatch z
  | f bs hd => obtain ⟨a, xs, rfl, _⟩ := h.inv; exact fun z => nomatch z
section
variable {P : Program} {w : World} {K : PySem.W.Frag} {mg : Str → Option Value} {base : Heap}
theorem ok_leb {f fX : Addr} {fd fdX : FuncData} (F : Fun K "left_behind" "left_behind" sLeb f fd) (T : Bl mg) (FX : Fun K "rule_left" "rule_left" sRul fX fdX) (bX : Binds K fdX ["kind", "rule", "beacon", "lit"] []) (gX : mg "rule_left" = some (.ref fX))
    (GX : FnOk P w K mg base CX0 2 fX fdX ["kind", "rule", "beacon", "lit"] (spRul K)) : FnOk P w K mg base CX0 3 f fd ["book", "beacon", "lit"] (spLeb K) := by
  refine F.ok scLeb (fun vs H Q E h => ?_) (fun cdv A outer s H vs Q E hr h => ?_)
  · obtain ⟨k, rs, v, m, b, l, rfl, _⟩ := h
    rfl
  · obtain ⟨k, rs, v, m, b, l, rfl, ho, hz, ht, q⟩ := h
    refine ⟨_, pss_cons (ps_setLc (i := 3) (own := [("rule", 4)]) (g := gName 4) (tt := tYes) (by rfl) scLeb.nd rfl rfl (sw_true rfl rfl rfl (by decide +kernel)) (pi_tup (pe_ix ix_tup (pv 0) pe_int (fun _ _ => rfl)))
        (blkOk_by (own := [("rule", 4)]) (N := ["book", "beacon", "lit", "rules", "rule"]) (sc := defScope sLeb) (by decide +kernel)) (fun _ _ _ _ _ => pg_name (i := 4) scLeb.nd rfl (Or.inl rfl)) (fun _ _ _ _ _ => pts_nil)
        (fun _ _ _ _ _ => pe_call GX hr (by rfl) gX FX.kp bX .nil pass0 (pa_cons (pe_ix (ix_tupK K rfl) (pv 0) pe_int (fun _ _ => rfl)) (pa_cons (pv 4) (pa_cons (pv 1) (pa_cons (pv 2) pa_nil))))))
      (pss_one (ps_ret (pe_tup (pa_cons (pe_ix ix_tup (pv 0) pe_int (fun _ _ => rfl)) (pa_cons (pe_callTy call_tuple_of (by rfl) T.tuple (by decide +kernel) (pa_cons
        (pe_lc (own := [("rule", 4)]) (g := gName 4) (by rfl) scLeb.nd (pi_list (pv 3)) (blkOk_by (own := [("rule", 4)]) (N := ["book", "beacon", "lit", "rules", "rule"]) (sc := defScope sLeb) (by decide +kernel))
          (fun _ _ _ _ _ => pg_name (i := 4) scLeb.nd rfl (Or.inl rfl)) (fun _ _ _ _ _ => pts_one (pt_cmpR op_notN (pv 4) pe_non (nomark _))) (fun _ _ _ _ _ => pv 4)) pa_nil)) pa_nil))))), ?_⟩
    obtain ⟨a, r, xs, rfl, hS, hR, hA⟩ := book_inv ht
    have hl : xs.length = rs.length := by rw [hA.len, List.length_map]
    -- rules = [..]
    refine ⟨.ref a, rfl, a, _, 1, .ref r, rfl, rfl, hS, atI_nat (j := 1) rfl, r, rfl, ⟨_, hR⟩, fun D hD => lc_tup (K := K) (a := r) (xs := xs) (fun i H2 => Lc K H D ((rs.take i).map fun q => dO (leftR k b l q)) H2) (Lc.start hD)
      (fun i H2 _ lc => same_sqT lc.same hR) (fun i x H2 hx lc => ?_) (fun H1 lc => ?_)⟩
    · obtain ⟨y, hy, ty⟩ := hA.getM hx
      refine ⟨rfl, .ref a, rfl, a, _, 0, .str k.str, rfl, rfl, same_sqT lc.same hS, atI_nat (j := 0) rfl, _, rfl, _, rfl, _, rfl, ?_⟩
      refine ⟨k, y, x, m, b, l, rfl, ho y (List.mem_of_getElem? hy), ty.same lc.same, fun H3 u s3 t3 => ?_⟩
      rw [take_map _ hy]
      exact (lc.on s3).put hD (by rw [List.length_map]; exact take_len _ _ (by omega)) t3
    · rw [hl, List.take_length] at lc
      obtain ⟨ys, h1, h3⟩ := lc.seq
      have hly : ys.length = rs.length := by rw [h3.len, List.length_map]
      -- the tuple
      refine ⟨.ref a, rfl, a, _, 0, .str k.str, rfl, rfl, same_sqT lc.same hS, atI_nat (j := 0) rfl, ?_⟩
      refine ⟨.ref D, rfl, D, rfl, ⟨_, h1⟩, fun D2 hD2 => lc_list (K := K) (a := D) (xs := ys) (fun i H2 => Lc K H1 D2 (((rs.take i).filterMap (leftR k b l)).map dR) H2) (Lc.start hD2)
        (fun i H2 _ l2 => l2.same.seq h1) (fun i x H2 hx l2 => ?_) (fun H2 l2 => ?_)⟩
      · obtain ⟨y, hy, ty⟩ := h3.getM hx
        refine ⟨rfl, _, rfl, rfl, _, rfl, ?_⟩
        rw [take_fm _ hy]
        cases c : leftR k b l y with
        | none =>
          rw [c] at ty
          rw [ty.non_inv]
          rw [(show ((none : Option Rl).toList) = [] from rfl), List.append_nil]
          exact l2
        | some r' =>
          rw [c] at ty
          have ty : Tp K H1 x (dR r') := ty
          rw [decide_eq_false (tp_ref ty)]
          rw [(show ((some r').toList) = [r'] from rfl), List.map_append]
          exact ⟨_, rfl, l2.put hD2 (by rw [List.length_map]; exact Nat.le_trans (List.length_filterMap_le _ _) (take_len _ _ (by omega))) (ty.same l2.same)⟩
      · rw [hly, List.take_length] at l2
        obtain ⟨zs, h4, h5⟩ := l2.tuple
        refine ⟨D2, zs, rfl, .inl ⟨h4, fun p hp => ?_⟩⟩
        obtain ⟨s2, t2⟩ := h5 p hp
        refine ⟨(by show 2 ≤ sizeLine; decide), fun p2 hp2 => ?_⟩
        exact q _ _ (lc.same.trans (s2.trans (same_upd hp2))) (Tp.new (.two (.str _) t2) hp2)
end
end Ka

set_option Elab.async false
set_option linter.all false
set_option maxRecDepth 100000
set_option maxHeartbeats 400000
namespace Ka
open PySem PySem.Spec PyProof.Rows L2
theorem scBlend : FnScope ["kind", "evenings", "found", "at", "many", "evening"] ["kind", "evenings"] (defScope sBlend) := ⟨rfl, rfl, rfl, by decide +kernel, rfl, by decide +kernel, by decide +kernel⟩
def spBlend (K : PySem.W.Frag) : Sp := fun vs H Q _ => ∃ k a xs evs n, vs = [.str (Kd.str k), .ref a] ∧ SqL K H a xs ∧ TpA K H xs (evs.map dE) ∧ (∀ ev ∈ evs, ev.length = n) ∧ 1 ≤ evs.length ∧ evs.length ≤ 3 ∧ n ≤ 60 ∧
  ∀ H' u, Same H H' → Tp K H' u (dE (blend k evs n)) → Q u H'
theorem gtN (c j : Nat) : decide ((j : Int) < (c : Int)) = decide (j < c) := by
  by_cases h : j < c
  · rw [decide_eq_true h, decide_eq_true (by omega)]
  · rw [decide_eq_false h, decide_eq_false (by omega)]
theorem eqN (c j : Nat) : decide (V.int (c : Int) = V.int (j : Int)) = decide (c = j) := by
  by_cases h : c = j
  · rw [decide_eq_true h]
    exact decide_eq_true (congrArg V.int (by omega))
  · rw [decide_eq_false h]
    exact decide_eq_false fun z => h (by have := V.int.inj z; omega)
section
variable {P : Program} {w : World} {K : PySem.W.Frag} {mg : Str → Option Value} {base : Heap}
theorem ok_blend {f : Addr} {fd : FuncData} (F : Fun K "blended" "blended" sBlend f fd) (T : Bl mg) : FnOk P w K mg base CX0 1 f fd ["kind", "evenings"] (spBlend K) := by
  refine F.ok scBlend (fun vs H Q E h => ?_) (fun cdv A outer s H vs Q E hr h => ?_)
  · obtain ⟨k, a, xs, evs, n, rfl, _⟩ := h
    rfl
  · obtain ⟨k, a, xs, evs, n, rfl, hS, hA, hl, h1, h3, hn, q⟩ := h
    refine ⟨_, pss_cons (ps_set (i := 2) scBlend.nd rfl (Or.inl rfl) (pe_lst pa_nil))
      (pss_cons (ps_for PassesOwn.never rfl (pi_range1 (by rfl) T.range (pa_cons (pe_callB call_len_seq (by rfl) T.len PySem.boot_len (pa_cons (pe_ix ix_list (pv 1) pe_int (fun _ _ => rfl)) pa_nil)) pa_nil)) (pg_name (i := 3) scBlend.nd rfl (Or.inr rfl))
        (pss_cons (ps_set (i := 4) scBlend.nd rfl (Or.inl rfl) (pe_callB call_len_seq (by rfl) T.len PySem.boot_len (pa_cons
            (pe_lc (own := [("evening", 5)]) (g := gName 5) (by rfl) scBlend.nd (pi_list (pv 1)) (blkOk_by (own := [("evening", 5)]) (N := ["kind", "evenings", "found", "at", "many", "evening"]) (sc := defScope sBlend) (by decide +kernel))
              (fun _ _ _ _ _ => pg_name (i := 5) scBlend.nd rfl (Or.inl rfl)) (fun _ _ _ _ _ => pts_one (pt_val (pe_ix (ix_tupK K rfl) (pv 5) (pv 3) (fun _ _ => rfl)))) (fun _ _ _ _ _ => pv 5)) pa_nil)))
          (pss_one (ps_if (pt_cmpR op_eq (pv 0) pe_str (nomark _))
            (pss_one (ps_expr (pe_bm PySem.F.plainAttrs_list PySem.F.slot_list_append PySem.F.type_list_append mt_append (pv 2) (pa_cons (pe_cmpR op_gt (pv 4) pe_int (nomark _)) pa_nil))))
            (pss_one (ps_if (pt_cmpR op_eq (pv 0) pe_str (nomark _))
              (pss_one (ps_expr (pe_bm PySem.F.plainAttrs_list PySem.F.slot_list_append PySem.F.type_list_append mt_append (pv 2) (pa_cons (pe_cmpR op_eq (pe_op op_mod (pv 4) pe_int) pe_int (nomark _)) pa_nil))))
              (pss_one (ps_if (pt_cmpR op_eq (pv 0) pe_str (nomark _))
                (pss_one (ps_expr (pe_bm PySem.F.plainAttrs_list PySem.F.slot_list_append PySem.F.type_list_append mt_append (pv 2) (pa_cons (pe_cmpR op_eq (pv 4) pe_int (nomark _)) pa_nil))))
                (pss_one (ps_expr (pe_bm PySem.F.plainAttrs_list PySem.F.slot_list_append PySem.F.type_list_append mt_append (pv 2) (pa_cons (pe_cmpR op_gt (pv 4) pe_int (nomark _)) pa_nil))))))))))))
      (pss_one (ps_ret (pe_callTy call_tuple_of (by rfl) T.tuple (by decide +kernel) (pa_cons (pv 2) pa_nil))))), ?_⟩
    have hlx : xs.length = evs.length := by rw [hA.len, List.length_map]
    -- found = []
    refine ⟨Nat.zero_le _, fun D hD => ?_⟩
    have s0 : Same H (upd H D (.lst [])) := same_upd hD
    -- range(len(evenings[0]))
    obtain ⟨ev0, he0⟩ : ∃ ev, evs[0]? = some ev := ⟨evs[0], List.getElem?_eq_getElem (by omega)⟩
    have hl0 := hl ev0 (List.mem_of_getElem? he0)
    obtain ⟨x0, hx0, t0⟩ := hA.atM he0
    obtain ⟨e0, rfl, hE0⟩ := evening_inv t0
    have en : (((ev0.map V.bl).length : Nat) : Int).toNat = n := by
      rw [List.length_map, hl0]
      omega
    have eb : ((ev0.map V.bl).length : Int) = (n : Int) := by rw [List.length_map, hl0]
    refine ⟨.ref a, rfl, a, _, 0, .ref e0, rfl, rfl, s0.seq hS, atI_nat (j := 0) hx0, e0, _, rfl, .inr (same_sqT s0 hE0), _, rfl, (by rw [eb]; omega), (by rw [eb]; omega), ?_⟩
    rw [en]
    refine for_range (lo := 0) (n := n) (fun i σ H' => ∃ y3 y4, σ = [some (.str k.str), some (.ref a), some (.ref D), y3, y4, none] ∧ Lc K H D ((blend k evs i).map .bool) H')
      ⟨none, none, rfl, Lc.start hD⟩ ?_ ?_
    · rintro i σ H' hi ⟨y3, y4, rfl, lc⟩
      rw [Int.zero_add]
      -- many = len([..])
      refine ⟨.ref a, rfl, a, rfl, ⟨_, lc.same.seq hS⟩, fun D2 hD2 => lc_list (K := K) (a := a) (xs := xs) (fun j H2 => Lc K H' D2 (((evs.take j).filter fun ev => bitAt ev i).map dE) H2) (Lc.start hD2)
        (fun j H2 _ l2 => (lc.same.trans l2.same).seq hS) (fun j x H2 hx l2 => ?_) (fun H2 l2 => ?_)⟩
      · obtain ⟨ev, hev, te⟩ := hA.getM hx
        obtain ⟨ea, rfl, hE⟩ := evening_inv te
        have hle := hl ev (List.mem_of_getElem? hev)
        refine ⟨rfl, _, rfl, .int (i : Int), rfl, ea, _, _, _, rfl, rfl, same_sqT (lc.same.trans l2.same) hE, at_ev (by rw [hle]; exact hi), _, rfl, ?_⟩
        cases c : bitAt ev i with
        | true =>
          rw [take_filT (p := fun ev => bitAt ev i) hev c, List.map_append]
          exact ⟨_, rfl, l2.put hD2 (by rw [List.length_map]; exact Nat.le_trans (List.length_filter_le _ _) (take_len _ _ (by omega))) (te.same (lc.same.trans l2.same))⟩
        | false =>
          rw [take_filF (p := fun ev => bitAt ev i) hev c]
          exact l2
      · rw [hlx, List.take_length] at l2
        obtain ⟨ys, h4, h5⟩ := l2.seq
        have hy : ys.length = many evs i := by rw [h5.len, List.length_map]; rfl
        obtain ⟨acc, a1, a2, a3⟩ := (lc.on l2.same).acc hD (by rw [List.length_map, blend_length]; omega)
        refine ⟨D2, ys, rfl, .inl h4, ?_⟩
        rw [hy]
        have fin : ∀ bb, bb = blendB k (many evs i) → Lc K H D ((blend k evs (i + 1)).map .bool) (upd H2 D (.lst (acc ++ [.bl bb]))) := fun bb e => by
          rw [blend_succ, List.map_append, e]
          exact a3 _ _ (.bl _)
        have nn : many evs i ≤ 3 := Nat.le_trans (List.length_filter_le _ _) h3
        refine ⟨_, rfl, rfl, _, rfl, ite2 (fun c => ?_) (fun c => ?_)⟩
        · obtain rfl : k = .e := kdE.mp c
          refine ⟨.ref D, rfl, .inl ⟨rfl, _, .inl (.inl a1)⟩, _, rfl, _, _, rfl, rfl, D, _, _, rfl, rfl, a1, a2, ?_⟩
          exact ⟨_, _, rfl, fin _ (gtN _ 1)⟩
        · refine ⟨_, rfl, rfl, _, rfl, ite2 (fun c2 => ?_) (fun c2 => ?_)⟩
          · obtain rfl : k = .s := kdS.mp c2
            refine ⟨.ref D, rfl, .inl ⟨rfl, _, .inl (.inl a1)⟩, _, rfl, _, _, rfl, rfl, (by show (0 : Int) < 2; decide), rfl, D, _, _, rfl, rfl, a1, a2, ?_⟩
            exact ⟨_, _, rfl, fin _ (parV _)⟩
          · refine ⟨_, rfl, rfl, _, rfl, ite2 (fun c4 => ?_) (fun c4 => ?_)⟩
            · obtain rfl : k = .f := kdF.mp c4
              refine ⟨.ref D, rfl, .inl ⟨rfl, _, .inl (.inl a1)⟩, _, rfl, rfl, D, _, _, rfl, rfl, a1, a2, ?_⟩
              exact ⟨_, _, rfl, fin _ (eqN _ 2)⟩
            · have hk : k = .n := by
                cases k
                · exact absurd (kdE.mpr rfl) c
                · exact absurd (kdS.mpr rfl) c2
                · exact absurd (kdF.mpr rfl) c4
                · rfl
              subst hk
              refine ⟨.ref D, rfl, .inl ⟨rfl, _, .inl (.inl a1)⟩, _, rfl, _, _, rfl, rfl, D, _, _, rfl, rfl, a1, a2, ?_⟩
              exact ⟨_, _, rfl, fin _ (gtN _ 0)⟩
    · rintro σ H' ⟨y3, y4, rfl, lc⟩
      obtain ⟨ys, h4, h5⟩ := lc.tuple
      refine ⟨_, rfl, D, ys, rfl, .inl ⟨h4, fun p hp => ?_⟩⟩
      obtain ⟨s2, t2⟩ := h5 p hp
      exact q _ _ s2 t2
end
end Ka

set_option Elab.async false
set_option linter.all false
set_option maxRecDepth 100000
set_option maxHeartbeats 400000
namespace Ka
open PySem PySem.Spec PyProof.Rows L2
theorem scCell : FnScope ["script", "k"] ["script", "k"] (defScope sCell) := ⟨rfl, rfl, rfl, by decide +kernel, rfl, by decide +kernel, by decide +kernel⟩
theorem scMix : FnScope ["cell", "by"] ["cell", "by"] (defScope sMix) := ⟨rfl, rfl, rfl, by decide +kernel, rfl, by decide +kernel, by decide +kernel⟩
theorem scKind : FnScope ["cell"] ["cell"] (defScope sKind) := ⟨rfl, rfl, rfl, by decide +kernel, rfl, by decide +kernel, by decide +kernel⟩
theorem scBits : FnScope ["cell", "many", "left", "bits", "k"] ["cell", "many"] (defScope sBits) := ⟨rfl, rfl, rfl, by decide +kernel, rfl, by decide +kernel, by decide +kernel⟩
theorem scBool : FnScope ["found", "due"] ["found", "due"] (defScope sBool) := ⟨rfl, rfl, rfl, by decide +kernel, rfl, by decide +kernel, by decide +kernel⟩
def spCell (K : PySem.W.Frag) : Sp := fun vs H Q _ => ∃ a ns j, vs = [.ref a, vI j] ∧ SqL K H a (List.map V.int ns) ∧ ∀ z, Q (.int z) H
def spMix : Sp := fun vs H Q _ => ∃ c b : Int, vs = [.int c, .int b] ∧ (-(2 ^ 64) < b ∧ b < 2 ^ 64) ∧ ∀ z, Q (.int z) H
def spKind : Sp := fun vs H Q _ => ∃ c : Int, vs = [.int c] ∧ ∀ H' k, Same H H' → Q (.str (Kd.str k)) H'
def spBits (K : PySem.W.Frag) : Sp := fun vs H Q _ => ∃ (c : Int) (m : Nat), vs = [.int c, vI m] ∧ m ≤ 60 ∧ ∀ H' p ev, Same H H' → List.length ev = m → SqL K H' p (ev.map .bl) → Q (.ref p) H'
def spBool : Sp := fun vs H Q _ => ∃ a b, vs = [.bl a, .bl b] ∧ Q (.bl (a == b)) H
section
variable {P : Program} {w : World} {K : PySem.W.Frag} {mg : Str → Option Value} {base : Heap}
theorem ok_cell {f : Addr} {fd : FuncData} (F : Fun K "_law_cell" "_law_cell" sCell f fd) (T : Bl mg) : FnOk P w K mg base CX0 1 f fd ["script", "k"] (spCell K) := by
  refine F.ok scCell (fun vs H Q E h => ?_) (fun cdv A outer s H vs Q E hr h => ?_)
  · obtain ⟨a, ns, j, rfl, _⟩ := h
    rfl
  · obtain ⟨a, ns, j, rfl, hS, q⟩ := h
    refine ⟨_, pss_cons (ps_if (pt_cmpR op_lt (pv 1) (pe_callB call_len_seq (by rfl) T.len PySem.boot_len (pa_cons (pv 0) pa_nil)) (nomark _)) (pss_one (ps_ret (pe_ix ix_list (pv 0) (pv 1) (fun _ _ => rfl)))) pss_nil)
      (pss_one (ps_ret pe_int)), ?_⟩
    refine ⟨_, rfl, .ref a, rfl, a, _, rfl, .inl hS, _, _, rfl, rfl, _, rfl, ite2 (fun c => ?_) (fun c => ?_)⟩
    · have c := of_decide_eq_true c
      rw [List.length_map] at c
      have hj : j < ns.length := by omega
      refine ⟨.ref a, rfl, _, rfl, a, _, _, .int ns[j], rfl, rfl, hS, atI_nat (j := j) ?_, q _⟩
      rw [List.getElem?_map, List.getElem?_eq_getElem hj]
      rfl
    · exact q _
theorem ok_mix {f : Addr} {fd : FuncData} (F : Fun K "_law_mixed" "_law_mixed" sMix f fd) : FnOk P w K mg base CX0 1 f fd ["cell", "by"] spMix := by
  refine F.ok scMix (fun vs H Q E h => ?_) (fun cdv A outer s H vs Q E hr h => ?_)
  · obtain ⟨c, b, rfl, _⟩ := h
    rfl
  · obtain ⟨c, b, rfl, hb, q⟩ := h
    refine ⟨_, pss_one (ps_ret (pe_op op_mod (pe_op op_mul (pe_op op_mod (pv 0) pe_int) (pv 1)) pe_int)), ?_⟩
    exact ⟨_, rfl, _, _, rfl, rfl, (by show (0 : Int) < 2305843009213693951; decide), _, rfl, _, _, rfl, rfl, .inr hb, _, _, rfl, rfl, (by show (0 : Int) < 2305843009213693951; decide), q _⟩
theorem ok_kind {f : Addr} {fd : FuncData} (F : Fun K "_law_kind" "_law_kind" sKind f fd) : FnOk P w K mg base CX0 1 f fd ["cell"] spKind := by
  refine F.ok scKind (fun vs H Q E h => ?_) (fun cdv A outer s H vs Q E hr h => ?_)
  · obtain ⟨c, rfl, _⟩ := h
    rfl
  · obtain ⟨c, rfl, q⟩ := h
    refine ⟨_, pss_one (ps_ret (pe_ix ix_list (pe_lst (pa_cons pe_str (pa_cons pe_str (pa_cons pe_str (pa_cons pe_str pa_nil))))) (pe_op op_mod (pv 0) pe_int) (fun _ _ => rfl))), ?_⟩
    refine ⟨(by show 4 ≤ sizeLine; decide), fun p hp => ?_⟩
    have s1 := same_upd (o := .lst [V.str "eithers", V.str "sums", V.str "ifs", V.str "nots"]) hp
    refine ⟨_, rfl, _, _, rfl, rfl, (by show (0 : Int) < 4; decide), ?_⟩
    have h0 := Int.emod_nonneg c (show (4 : Int) ≠ 0 by decide)
    have h4 := Int.emod_lt_of_pos c (show (0 : Int) < 4 by decide)
    have fin : ∀ (k : Kd) (j : Nat), c % 4 = (j : Int) → ([V.str "eithers", V.str "sums", V.str "ifs", V.str "nots"] : List V)[j]? = some (.str k.str) →
        rIxL K (.ref p) (.int (c % 4)) (upd H p (.lst [V.str "eithers", V.str "sums", V.str "ifs", V.str "nots"])) Q := fun k j e g =>
      ⟨p, _, _, _, rfl, rfl, SqL.of upd_same, at_of e g, q _ k s1⟩
    have c4 : c % 4 = 0 ∨ c % 4 = 1 ∨ c % 4 = 2 ∨ c % 4 = 3 := by omega
    rcases c4 with e | e | e | e
    · exact fin .e 0 e rfl
    · exact fin .s 1 e rfl
    · exact fin .f 2 e rfl
    · exact fin .n 3 e rfl
theorem ok_bool {f : Addr} {fd : FuncData} (F : Fun K "_law_bool" "_law_bool" sBool f fd) (T : Bl mg) : FnOk P w K mg base CX0 1 f fd ["found", "due"] spBool := by
  refine F.ok scBool (fun vs H Q E h => ?_) (fun cdv A outer s H vs Q E hr h => ?_)
  · obtain ⟨a, b, rfl, _⟩ := h
    rfl
  · obtain ⟨a, b, rfl, q⟩ := h
    refine ⟨_, pss_one (ps_ret (pe_and (pe_callB call_isi (by rfl) T.isinstance (by decide +kernel) (pa_cons (pv 0) (pa_cons (pe_bltn (v := .ty "bool") (u := .type "bool") (by rfl) T.bool (by decide +kernel) rfl) pa_nil)))
      (pe_one (pe_cmpR op_eq (pv 0) (pv 1) (nomark _))))), ?_⟩
    refine ⟨_, rfl, .bl a, .ty "bool", .type "bool", .type "bool", true, rfl, .ty _, .base (.bl a), kit_ty (by decide +kernel), true, rfl, ?_⟩
    refine ⟨_, rfl, _, rfl, rfl, ?_⟩
    rw [eqB]
    exact q
theorem ok_bits {f fX : Addr} {fd fdX : FuncData} (F : Fun K "_law_bits" "_law_bits" sBits f fd) (T : Bl mg) (FX : Fun K "_law_mixed" "_law_mixed" sMix fX fdX) (bX : Binds K fdX ["cell", "by"] []) (gX : mg "_law_mixed" = some (.ref fX)) :
    FnOk P w K mg base CX0 2 f fd ["cell", "many"] (spBits K) := by
  have GX : FnOk P w K mg base CX0 1 fX fdX ["cell", "by"] spMix := ok_mix FX
  refine F.ok scBits (fun vs H Q E h => ?_) (fun cdv A outer s H vs Q E hr h => ?_)
  · obtain ⟨c, m, rfl, _⟩ := h
    rfl
  · obtain ⟨c, m, rfl, hm, q⟩ := h
    refine ⟨_, pss_cons (ps_set (i := 2) scBits.nd rfl (Or.inl rfl) (pe_call GX hr (by rfl) gX FX.kp bX .nil pass0 (pa_cons (pv 0) (pa_cons pe_int pa_nil))))
      (pss_cons (ps_set (i := 3) scBits.nd rfl (Or.inl rfl) (pe_lst pa_nil))
      (pss_cons (ps_for PassesOwn.never rfl (pi_range1 (by rfl) T.range (pa_cons (pv 1) pa_nil)) (pg_name (i := 4) scBits.nd rfl (Or.inl rfl))
        (pss_cons (ps_expr (pe_bm PySem.F.plainAttrs_list PySem.F.slot_list_append PySem.F.type_list_append mt_append (pv 3) (pa_cons (pe_cmpR op_eq (pe_op op_mod (pv 2) pe_int) pe_int (nomark _)) pa_nil)))
        (pss_one (ps_set (i := 2) scBits.nd rfl (Or.inl rfl) (pe_op op_fdiv (pv 2) pe_int)))))
      (pss_one (ps_ret (pv 3))))), ?_⟩
    refine ⟨_, rfl, c, _, rfl, (by decide), fun z => ?_⟩
    refine ⟨Nat.zero_le _, fun D hD => ?_⟩
    refine ⟨_, rfl, (m : Int), rfl, (by omega), (by omega), ?_⟩
    rw [(show ((m : Nat) : Int).toNat = m by omega)]
    refine for_range (lo := 0) (n := m) (fun i σ H' => ∃ (x : Int) (y4 : Option V) (ev : List Bool), σ = [some (.int c), some (vI m), some (.int x), some (.ref D), y4] ∧ Lc K H D (ev.map .bool) H' ∧ ev.length = i) ⟨z, none, [], rfl, Lc.start hD, rfl⟩ ?_ ?_
    · rintro i σ H' hi ⟨x, y4, ev, rfl, lc, he⟩
      obtain ⟨acc, a1, a2, a3⟩ := lc.acc hD (by rw [List.length_map]; omega)
      refine ⟨.ref D, rfl, .inl ⟨rfl, _, .inl (.inl a1)⟩, _, rfl, _, _, rfl, rfl, (by show (0 : Int) < 2; decide), rfl, D, _, _, rfl, rfl, a1, a2, ?_⟩
      refine ⟨_, rfl, _, _, rfl, rfl, ⟨by decide, by decide⟩, ?_⟩
      refine ⟨_, _, ev ++ [decide (V.int (x % 2) = V.int 1)], rfl, ?_, by rw [List.length_append, he]; rfl⟩
      rw [List.map_append]
      exact a3 _ _ (.bl _)
    · rintro σ H' ⟨x, y4, ev, rfl, lc, he⟩
      obtain ⟨ys, h4, h5⟩ := lc.seq
      rw [TpA.bl_inv (f := fun b : Bool => b) h5] at h4
      exact ⟨_, rfl, q H' D ev lc.same he h4⟩
end
end Ka

set_option Elab.async false
set_option linter.all false
set_option maxRecDepth 100000
set_option maxHeartbeats 400000
namespace Ka
open PySem PySem.Spec PyProof.Rows L2
theorem scRule : FnScope ["kind", "cell", "many", "left", "size", "sayings", "k", "body"] ["kind", "cell", "many"] (defScope sRule) := ⟨rfl, rfl, rfl, by decide +kernel, rfl, by decide +kernel, by decide +kernel⟩
def spRule (K : PySem.W.Frag) : Sp := fun vs H Q _ => ∃ (k : Kd) (c : Int) (m : Nat), vs = [.str k.str, .int c, vI m] ∧ 1 ≤ m ∧ m ≤ 60 ∧ ∀ H' u r, Same H H' → okR k m r → Tp K H' u (dR r) → Q u H'
/-- an int below m as a beacon -/
theorem beacon_of {z : Int} {m : Nat} (h : 1 ≤ m) : ∃ b : Nat, z % (m : Int) = (b : Int) ∧ b < m := by
  have h0 := Int.emod_nonneg z (show (m : Int) ≠ 0 by omega)
  have h1 := Int.emod_lt_of_pos z (show (0 : Int) < (m : Int) by omega)
  exact ⟨(z % (m : Int)).toNat, by omega, by omega⟩
theorem int_tp {K : PySem.W.Frag} {H : Hp} {z : Int} {b : Nat} (e : z = (b : Int)) : Tp K H (.int z) (dI b) := by
  subst e
  exact .int _
theorem rIn_not {K : PySem.W.Frag} {H : Hp} {Q : VK} {p : Addr} {z : Int} {b : Nat} {bs : List Nat} (e : z = (b : Int)) (h : SqL K H p (bs.map vI)) (q : Q (.bl (!decide (b ∈ bs))) H) : rIn K true (.int z) (.ref p) H Q := by
  subst e
  refine ⟨p, _, rfl, .inl h, rfl, flat_ints bs, ?_⟩
  rw [if_pos rfl, (show inV (V.int (b : Int)) (bs.map vI) = decide (b ∈ bs) from inV_int b bs)]
  exact q
theorem tuB {K : PySem.W.Frag} {H : Hp} {p : Addr} {cs : List Nat} (hp : H p = none) : Tp K (upd H p (.tup ((cs.map fun b : Nat => (b : Int)).map V.int))) (.ref p) (dB cs) :=
  Tp.new (by rw [List.map_map]; exact TpA.ints) hp
theorem sorted_back {ns : List Int} {bs : List Nat} (h : ns.Perm (bs.map fun b : Nat => (b : Int))) : ∃ cs : List Nat, ns = cs.map (fun b : Nat => (b : Int)) ∧ cs.Perm bs := by
  have e : ns = (ns.map Int.toNat).map (fun b : Nat => (b : Int)) := by
    rw [List.map_map]
    have : ns.map id = ns.map ((fun b : Nat => (b : Int)) ∘ Int.toNat) := List.map_congr_left fun x hx => by
      obtain ⟨b, _, e⟩ := List.mem_map.mp (h.mem_iff.mp hx)
      show x = ((x.toNat : Nat) : Int)
      omega
    rw [← this, List.map_id]
  refine ⟨ns.map Int.toNat, e, ?_⟩
  have h2 := h.map Int.toNat
  rw [List.map_map] at h2
  have : bs.map (Int.toNat ∘ fun b : Nat => (b : Int)) = bs.map id := List.map_congr_left fun x _ => by
    show ((x : Int)).toNat = x
    omega
  rw [this, List.map_id] at h2
  exact h2
section
variable {P : Program} {w : World} {K : PySem.W.Frag} {mg : Str → Option Value} {base : Heap}
theorem ok_rule {f fX : Addr} {fd fdX : FuncData} (F : Fun K "_law_rule" "_law_rule" sRule f fd) (T : Bl mg) (FX : Fun K "_law_mixed" "_law_mixed" sMix fX fdX) (bX : Binds K fdX ["cell", "by"] []) (gX : mg "_law_mixed" = some (.ref fX)) :
    FnOk P w K mg base CX0 2 f fd ["kind", "cell", "many"] (spRule K) := by
  have GX : FnOk P w K mg base CX0 1 fX fdX ["cell", "by"] spMix := ok_mix FX
  refine F.ok scRule (fun vs H Q E h => ?_) (fun cdv A outer s H vs Q E hr h => ?_)
  · obtain ⟨k, c, m, rfl, _⟩ := h
    rfl
  · obtain ⟨k, c, m, rfl, hm1, hm, q⟩ := h
    have hu : (A.deeper (envOfC "_law_rule" (defScope sRule) s.heap.objs.size f cdv)).units + 65 < cLine := by
      have := hr.un
      omega
    refine ⟨_, pss_cons (ps_set (i := 3) scRule.nd rfl (Or.inl rfl) (pe_call GX hr (by rfl) gX FX.kp bX .nil pass0 (pa_cons (pv 1) (pa_cons pe_int pa_nil))))
      (pss_cons (ps_set (i := 4) scRule.nd rfl (Or.inl rfl) (pe_op op_mod (pv 3) (pe_ix ix_list (pe_lst (pa_cons pe_int (pa_cons pe_int pa_nil)))
        (pe_callTy call_int1 (by rfl) T.int (by decide +kernel) (pa_cons (pe_cmpR op_eq (pv 0) pe_str (nomark _)) pa_nil)) (fun _ _ => rfl))))
      (pss_cons (ps_set (i := 3) scRule.nd rfl (Or.inl rfl) (pe_op op_fdiv (pv 3) pe_int))
      (pss_cons (ps_if (pt_cmpR op_eq (pv 0) pe_str (nomark _))
        (pss_cons (ps_set (i := 5) scRule.nd rfl (Or.inl rfl) (pe_lst pa_nil))
        (pss_cons (ps_for PassesOwn.never rfl (pi_range1 (by rfl) T.range (pa_cons (pv 4) pa_nil)) (pg_name (i := 6) scRule.nd rfl (Or.inl rfl))
          (C8.pss_cut (ps_if (pt_cmpR (op_notInD hu) (pe_tup (pa_cons (pe_op op_mod (pe_op op_fdiv (pv 3) pe_int) (pv 2)) (pa_cons (pe_cmpR op_eq (pe_op op_mod (pv 3) pe_int) pe_int (nomark _)) pa_nil))) (pv 5) (by rfl))
              (pss_one (ps_expr (pe_bm PySem.F.plainAttrs_list PySem.F.slot_list_append PySem.F.type_list_append mt_append (pv 5) (pa_cons
                (pe_tup (pa_cons (pe_op op_mod (pe_op op_fdiv (pv 3) pe_int) (pv 2)) (pa_cons (pe_cmpR op_eq (pe_op op_mod (pv 3) pe_int) pe_int (nomark _)) pa_nil))) pa_nil)))) pss_nil)
            (pss_one (ps_set (i := 3) scRule.nd rfl (Or.inl rfl) (pe_op op_fdiv (pv 3) (pe_op op_mul pe_int (pv 2)))))))
        (pss_one (ps_ret (pe_callTy call_tuple_of (by rfl) T.tuple (by decide +kernel) (pa_cons (pe_callB cr_sortB (by rfl) T.sorted (by decide +kernel) (pa_cons (pv 5) pa_nil)) pa_nil)))))) pss_nil)
      (pss_cons (ps_set (i := 7) scRule.nd rfl (Or.inl rfl) (pe_lst pa_nil))
      (pss_cons (ps_for PassesOwn.never rfl (pi_range1 (by rfl) T.range (pa_cons (pv 4) pa_nil)) (pg_name (i := 6) scRule.nd rfl (Or.inl rfl))
          (C8.pss_cut (ps_if (pt_cmpR op_notIn_seq (pe_op op_mod (pv 3) (pv 2)) (pv 7) (by rfl))
              (pss_one (ps_expr (pe_bm PySem.F.plainAttrs_list PySem.F.slot_list_append PySem.F.type_list_append mt_append (pv 7) (pa_cons (pe_op op_mod (pv 3) (pv 2)) pa_nil)))) pss_nil)
            (pss_one (ps_set (i := 3) scRule.nd rfl (Or.inl rfl) (pe_op op_fdiv (pv 3) (pv 2))))))
      (pss_cons (ps_if (pt_cmpR op_eq (pv 0) pe_str (nomark _))
        (pss_one (ps_ret (pe_tup (pa_cons (pe_callTy call_tuple_of (by rfl) T.tuple (by decide +kernel) (pa_cons (pe_callB cr_sorted (by rfl) T.sorted (by decide +kernel) (pa_cons (pv 7) pa_nil)) pa_nil))
          (pa_cons (pe_cmpR op_eq (pe_op op_mod (pv 3) pe_int) pe_int (nomark _)) pa_nil))))) pss_nil)
      (pss_one (ps_ret (pe_tup (pa_cons (pe_callTy call_tuple_of (by rfl) T.tuple (by decide +kernel) (pa_cons (pe_callB cr_sorted (by rfl) T.sorted (by decide +kernel) (pa_cons (pv 7) pa_nil)) pa_nil))
        (pa_cons (pe_ix ix_list (pe_lst (pa_cons pe_non (pa_cons (pe_op op_mod (pe_op op_fdiv (pv 3) pe_int) (pv 2)) pa_nil)))
          (pe_callTy call_int1 (by rfl) T.int (by decide +kernel) (pa_cons (pe_cmpR op_gt (pe_op op_mod (pv 3) pe_int) pe_int (nomark _)) pa_nil)) (fun _ _ => rfl)) pa_nil))))))))))), ?_⟩
    have mpos : (0 : Int) < (m : Int) := by omega
    -- left = _law_mixed(cell, ..)
    refine ⟨_, rfl, c, _, rfl, (by decide), fun z => ?_⟩
    -- size
    refine ⟨_, rfl, (by show 2 ≤ sizeLine; decide), fun p0 hp0 => ?_⟩
    have s0 := same_upd (o := .lst [V.int 7, V.int 3]) hp0
    refine ⟨_, rfl, rfl, .inr ⟨_, rfl, ?_⟩⟩
    generalize hH0 : upd H p0 (.lst [V.int 7, V.int 3]) = H0 at s0
    have hp : H0 p0 = some (.lst [V.int 7, V.int 3]) := by rw [← hH0]; exact upd_same
    have q : ∀ H' u r, Same H0 H' → okR k m r → Tp K H' u (dR r) → Q u H' := fun H' u r s ho ht => q H' u r (s0.trans s) ho ht
    clear hH0
    obtain ⟨n, hn0, hix⟩ : ∃ n : Nat, (0 < n ∧ n ≤ 7 ∧ (k = .e → n ≤ 3)) ∧ atI [V.int 7, V.int 3] (if decide (V.str k.str = V.str "eithers") = true then 1 else 0) = some (.int (n : Int)) := by
      by_cases ce : decide (V.str k.str = V.str "eithers") = true
      · refine ⟨3, ⟨by decide, by decide, fun _ => by decide⟩, ?_⟩
        rw [if_pos ce]
        rfl
      · refine ⟨7, ⟨by decide, by decide, fun z => absurd (kdE.mpr z) ce⟩, ?_⟩
        rw [if_neg ce]
        rfl
    refine ⟨p0, _, _, _, rfl, rfl, SqL.of hp, hix, z, _, rfl, rfl, (by show (0 : Int) < (n : Int); omega), ?_⟩
    obtain ⟨sz, hsz, hsn⟩ := beacon_of (z := z) (m := n) hn0.1
    -- left = left // 7
    refine ⟨_, rfl, _, _, rfl, rfl, ⟨by decide, by decide⟩, ?_⟩
    -- if kind == 'eithers'
    refine ⟨_, rfl, rfl, _, rfl, ite2 (fun ce => ?_) (fun ce => ?_)⟩
    · obtain rfl : k = .e := kdE.mp ce
      have h3 := hn0.2.2 rfl
      refine ⟨Nat.zero_le _, fun D hD => ?_⟩
      refine ⟨_, rfl, z % (n : Int), rfl, (by omega), (by omega), ?_⟩
      rw [(show (z % (n : Int)).toNat = sz by omega)]
      refine for_range (lo := 0) (n := sz) (fun i σ H' => ∃ (x : Int) (y6 : Option V) (ss : List (Nat × Bool)), σ = [some (.str Kd.e.str), some (.int c), some (vI m), some (.int x), some (.int (z % (n : Int))), some (.ref D), y6, none] ∧
        Lc K H0 D (ss.map dS) H' ∧ ss.length ≤ i ∧ ∀ p ∈ ss, p.1 < m) ⟨z / 7, none, [], rfl, Lc.start hD, Nat.le_refl _, fun p hp => absurd hp List.not_mem_nil⟩ ?_ ?_
      · rintro i σ H' hi ⟨x, y6, ss, rfl, lc, hl, hb⟩
        obtain ⟨b, eb, hbm⟩ := beacon_of (z := x / 2) (m := m) hm1
        -- the test
        refine ⟨fun σ2 H2 => ∃ ss : List (Nat × Bool), σ2 = [some (.str Kd.e.str), some (.int c), some (vI m), some (.int x), some (.int (z % (n : Int))), some (.ref D), some (.int (0 + i)), none] ∧
          Lc K H0 D (ss.map dS) H2 ∧ ss.length ≤ i + 1 ∧ ∀ p ∈ ss, p.1 < m, ?_, ?_⟩
        · refine ⟨_, rfl, _, _, rfl, rfl, ⟨by decide, by decide⟩, _, rfl, _, _, rfl, rfl, mpos, _, rfl, _, _, rfl, rfl, (by show (0 : Int) < 2; decide), rfl, (by show 2 ≤ sizeLine; decide), fun p hp => ?_⟩
          have s1 := same_upd (o := .tup [V.int (x / 2 % (m : Int)), V.bl (decide (V.int (x % 2) = V.int 1))]) hp
          have l1 := lc.on s1
          obtain ⟨ys, hy1, hy2⟩ := l1.lst
          refine ⟨_, rfl, dS (b, decide (V.int (x % 2) = V.int 1)), ss.map dS, (Tp.new (.two (int_tp eb) (.bl _)) hp).dp, .lst (.inl (.inl hy1)) (TpA.dp hy2), (fit_S _).shaped (by decide), (Fit.lst (fit_map fit_S)).shaped (by decide), _, rfl, ite2 (fun _ => ?_) (fun _ => ?_)⟩
          · refine ⟨.ref D, rfl, .inl ⟨rfl, _, .inl (.inl hy1)⟩, _, rfl, _, _, rfl, rfl, ⟨by decide, by decide⟩, _, rfl, _, _, rfl, rfl, mpos, _, rfl, _, _, rfl, rfl, (by show (0 : Int) < 2; decide), rfl, (by show 2 ≤ sizeLine; decide), fun p2 hp2 => ?_⟩
            have s2 := same_upd (o := .tup [V.int (x / 2 % (m : Int)), V.bl (decide (V.int (x % 2) = V.int 1))]) hp2
            obtain ⟨acc, a1, a2, a3⟩ := (l1.on s2).acc hD (by rw [List.length_map]; omega)
            refine ⟨D, _, _, rfl, rfl, a1, a2, ss ++ [(b, decide (V.int (x % 2) = V.int 1))], rfl, ?_, ?_, ?_⟩
            · rw [List.map_append]
              exact a3 _ _ (Tp.new (.two (int_tp eb) (.bl _)) hp2)
            · rw [List.length_append, List.length_singleton]
              omega
            · intro p hp
              rcases List.mem_append.mp hp with hp | hp
              · exact hb p hp
              · rw [List.mem_singleton.mp hp]
                exact hbm
          · exact ⟨ss, rfl, l1, by omega, hb⟩
        · rintro σ2 H2 ⟨ss2, rfl, l2, hl2, hb2⟩
          refine ⟨_, rfl, _, rfl, _, _, rfl, rfl, .inl (by decide), _, _, rfl, rfl, ⟨by omega, by omega⟩, ?_⟩
          exact ⟨_, _, ss2, rfl, l2, hl2, hb2⟩
      · rintro σ H' ⟨x, y6, ss, rfl, lc, hl, hb⟩
        obtain ⟨ys, h4, h5⟩ := lc.seq
        refine ⟨_, rfl, D, ys, ss, rfl, h4, h5, by omega, fun zs p tz hp => ?_⟩
        refine ⟨p, zs, rfl, .inl ⟨SqL.of upd_same, fun p2 hp2 => ?_⟩⟩
        refine q _ _ (.e (sort2 ss)) (lc.same.trans ((same_upd hp).trans (same_upd hp2))) ⟨by rw [sort2_length]; omega, fun p hp => hb p (mem_sort2.mp hp)⟩ (Tp.new (tz.same (same_upd hp)) hp2)
    · refine ⟨Nat.zero_le _, fun D hD => ?_⟩
      refine ⟨_, rfl, z % (n : Int), rfl, (by omega), (by omega), ?_⟩
      rw [(show (z % (n : Int)).toNat = sz by omega)]
      refine for_range (lo := 0) (n := sz) (fun i σ H' => ∃ (x : Int) (y6 : Option V) (bs : List Nat), σ = [some (.str k.str), some (.int c), some (vI m), some (.int x), some (.int (z % (n : Int))), none, y6, some (.ref D)] ∧
        Lc K H0 D (bs.map dI) H' ∧ bs.length ≤ i ∧ bs.Nodup ∧ ∀ b ∈ bs, b < m) ⟨z / 7, none, [], rfl, Lc.start hD, Nat.le_refl _, List.nodup_nil, fun p hp => absurd hp List.not_mem_nil⟩ ?_ ?_
      · rintro i σ H' hi ⟨x, y6, bs, rfl, lc, hl, hnd, hb⟩
        obtain ⟨b, eb, hbm⟩ := beacon_of (z := x) (m := m) hm1
        refine ⟨fun σ2 H2 => ∃ bs : List Nat, σ2 = [some (.str k.str), some (.int c), some (vI m), some (.int x), some (.int (z % (n : Int))), none, some (.int (0 + i)), some (.ref D)] ∧
          Lc K H0 D (bs.map dI) H2 ∧ bs.length ≤ i + 1 ∧ bs.Nodup ∧ ∀ b ∈ bs, b < m, ?_, ?_⟩
        · refine ⟨_, rfl, _, rfl, _, _, rfl, rfl, mpos, _, rfl, ?_⟩
          obtain ⟨ys, hy1, hy2⟩ := lc.lst
          rw [TpA.int_inv (f := fun b : Nat => (b : Int)) hy2] at hy1
          have hy1 : H' D = some (.lst (bs.map vI)) := hy1
          refine rIn_not eb (.inl (.inl hy1)) ⟨_, rfl, ?_⟩
          by_cases hmem : b ∈ bs
          · rw [decide_eq_true hmem]
            exact ⟨bs, rfl, lc, by omega, hnd, hb⟩
          · rw [decide_eq_false hmem]
            obtain ⟨acc, a1, a2, a3⟩ := lc.acc hD (by rw [List.length_map]; omega)
            refine ⟨.ref D, rfl, .inl ⟨rfl, _, .inl (.inl a1)⟩, _, rfl, _, rfl, _, _, rfl, rfl, mpos, D, _, _, rfl, rfl, a1, a2, bs ++ [b], rfl, ?_, ?_, ?_, ?_⟩
            · rw [List.map_append]
              exact a3 _ _ (int_tp eb)
            · rw [List.length_append, List.length_singleton]
              omega
            · refine List.nodup_append.mpr ⟨hnd, List.pairwise_singleton _ _, fun a ha c hc => ?_⟩
              rw [List.mem_singleton.mp hc]
              exact fun e => hmem (e ▸ ha)
            · intro a ha
              rcases List.mem_append.mp ha with ha | ha
              · exact hb a ha
              · rw [List.mem_singleton.mp ha]
                exact hbm
        · rintro σ2 H2 ⟨bs2, rfl, l2, hl2, hn2, hb2⟩
          refine ⟨_, rfl, _, rfl, _, _, rfl, rfl, ⟨mpos, by omega⟩, ?_⟩
          exact ⟨_, _, bs2, rfl, l2, hl2, hn2, hb2⟩
      · rintro σ H' ⟨x, y6, bs, rfl, lc, hl, hnd, hb⟩
        have h6 : bs.length ≤ 6 := by omega
        obtain ⟨ys, h4, h5⟩ := lc.seq
        rw [TpA.int_inv (f := fun b : Nat => (b : Int)) h5, (show (bs.map fun b : Nat => V.int (b : Int)) = (bs.map fun b : Nat => (b : Int)).map V.int by rw [List.map_map]; rfl)] at h4
        have perm6 : ∀ cs : List Nat, List.Perm cs bs → cs.length ≤ 6 ∧ cs.Nodup ∧ ∀ b ∈ cs, b < m := fun cs hcs => ⟨by rw [hcs.length_eq]; exact h6, hcs.nodup_iff.mpr hnd, fun b hb' => hb b (hcs.mem_iff.mp hb')⟩
        refine ⟨_, rfl, rfl, _, rfl, ite2 (fun c2 => ?_) (fun c2 => ?_)⟩
        · obtain rfl : k = .s := kdS.mp c2
          refine ⟨_, rfl, D, _, rfl, h4, (by rw [List.length_map]; omega), fun ns p1 hperm _ hp1 => ?_⟩
          obtain ⟨cs, rfl, hcs⟩ := sorted_back hperm
          refine ⟨p1, _, rfl, .inl ⟨SqL.of upd_same, fun p2 hp2 => ?_⟩⟩
          have s2 := (same_upd (o := .lst ((cs.map fun b : Nat => (b : Int)).map V.int)) hp1).trans (same_upd (o := .tup ((cs.map fun b : Nat => (b : Int)).map V.int)) hp2)
          have tu := tuB (K := K) (cs := cs) hp2
          refine ⟨_, rfl, _, _, rfl, rfl, (by show (0 : Int) < 2; decide), rfl, (by show 2 ≤ sizeLine; decide), fun p hp => ?_⟩
          exact q _ _ (.s cs _) (lc.same.trans (s2.trans (same_upd hp))) (perm6 cs hcs) (Tp.new (.two tu (.bl _)) hp)
        · have okk : ∀ cs hd, List.Perm cs bs → (∀ x, hd = some x → x < m) → okR k m (.f cs hd) := fun cs hd hcs hh => by
            obtain ⟨p1, p2, p3⟩ := perm6 cs hcs
            cases k
            · exact absurd (kdE.mpr rfl) ce
            · exact absurd (kdS.mpr rfl) c2
            · exact ⟨p1, p3, hh⟩
            · exact ⟨p1, p3, hh⟩
          refine ⟨_, rfl, D, _, rfl, h4, (by rw [List.length_map]; omega), fun ns p1 hperm _ hp1 => ?_⟩
          obtain ⟨cs, rfl, hcs⟩ := sorted_back hperm
          refine ⟨p1, _, rfl, .inl ⟨SqL.of upd_same, fun p3 hp3 => ?_⟩⟩
          have s2 := (same_upd (o := .lst ((cs.map fun b : Nat => (b : Int)).map V.int)) hp1).trans (same_upd (o := .tup ((cs.map fun b : Nat => (b : Int)).map V.int)) hp3)
          have tu := tuB (K := K) (cs := cs) hp3
          generalize hH2 : upd (upd H' p1 (.lst ((cs.map fun b : Nat => (b : Int)).map V.int))) p3 (.tup ((cs.map fun b : Nat => (b : Int)).map V.int)) = H2 at s2 tu
          obtain ⟨b, eb, hbm⟩ := beacon_of (z := x / 3) (m := m) hm1
          refine ⟨_, rfl, _, _, rfl, rfl, ⟨by decide, by decide⟩, _, rfl, _, _, rfl, rfl, mpos, (by show 2 ≤ sizeLine; decide), fun p hp => ?_⟩
          have s3 := same_upd (o := .lst [V.non, V.int (x / 3 % (m : Int))]) hp
          refine ⟨_, rfl, _, _, rfl, rfl, (by show (0 : Int) < 3; decide), _, _, rfl, rfl, .inr ⟨_, rfl, ?_⟩⟩
          have fin : ∀ (hd : Option Nat) (y : V), y = vH hd → (∀ x, hd = some x → x < m) → ∀ p2, (upd H2 p (.lst [V.non, V.int (x / 3 % (m : Int))])) p2 = none → Q (.ref p2) (upd (upd H2 p (.lst [V.non, V.int (x / 3 % (m : Int))])) p2 (.tup [.ref p3, y])) := fun hd y ey hh p2 hp2 => by
            subst ey
            exact q _ _ (.f cs hd) (lc.same.trans (s2.trans (s3.trans (same_upd hp2)))) (okk cs hd hcs hh) (Tp.new (.two (tu.same s3) (head_tp _)) hp2)
          by_cases cx : 0 < x % 3
          · refine ⟨p, _, _, .int (x / 3 % (m : Int)), rfl, rfl, SqL.of upd_same, ?_, (by show 2 ≤ sizeLine; decide), fin (some b) _ (congrArg V.int eb) fun y hy => by cases hy; exact hbm⟩
            rw [if_pos (decide_eq_true cx)]
            rfl
          · refine ⟨p, _, _, .non, rfl, rfl, SqL.of upd_same, ?_, (by show 2 ≤ sizeLine; decide), fin none _ rfl fun y hy => by cases hy⟩
            rw [if_neg (by rw [decide_eq_false cx]; exact Bool.false_ne_true)]
            rfl
end
end Ka

set_option Elab.async false
set_option linter.all false
set_option maxRecDepth 100000
set_option maxHeartbeats 400000
namespace Ka
open PySem PySem.Spec PyProof.Rows L2
theorem scLaw : FnScope ["script", "kind", "many", "book", "k", "evenings", "other", "turned", "some", "beacon", "cell", "evening"] ["script"] (defScope sLaw) := ⟨rfl, rfl, rfl, by decide +kernel, rfl, by decide +kernel, by decide +kernel⟩
abbrev nLaw : List Str := ["script", "kind", "many", "book", "k", "evenings", "other", "turned", "some", "beacon", "cell", "evening"]
def spLaw (K : PySem.W.Frag) : Sp := fun vs H Q _ => ∃ (a : Addr) (ns : List Int), vs = [.ref a] ∧ SqL K H a (ns.map V.int) ∧ ns.length ≤ 63 ∧ ∀ H', Q (.bl true) H'
/-- a def of the text, kept, called by its name -/
structure Df (P : Program) (w : World) (K : PySem.W.Frag) (mg : Str → Option Value) (base : Heap) (x : Str) (k : Nat) (ps : List Str) (sp : Sp) where
  f : Addr
  fd : FuncData
  ok : FnOk P w K mg base CX0 k f fd ps sp
  kp : PySem.W.keepIn K (.ref f) = true
  b : Binds K fd ps []
  g : mg x = some (.ref f)
theorem TpA.take {K : PySem.W.Frag} {H : Hp} : ∀ {n : Nat} {vs : List V} {ds : List PyData}, TpA K H vs ds → TpA K H (vs.take n) (ds.take n)
  | 0, _, _, _ => by
    rw [List.take_zero, List.take_zero]
    exact .nil
  | n + 1, _, [], h => by
    cases h
    exact .nil
  | n + 1, _, d :: ds, h => by
    cases h with
    | cons h t => exact .cons h (TpA.take t)
theorem cut_ints {ns : List Int} {lo hi : Option Int} {i : Nat} {x : V} (h : (cutV (ns.map V.int) lo hi)[i]? = some x) : ∃ z, x = .int z := by
  have m := List.mem_of_mem_drop (List.mem_of_mem_take (List.mem_of_getElem? h))
  obtain ⟨z, _, e⟩ := List.mem_map.mp m
  exact ⟨z, e.symm⟩
theorem cut_to (xs : List V) (n : Nat) : cutV xs none (some (n : Int)) = xs.take n := by
  unfold cutV
  rw [HT.sIx_none, HT.sIx_nat, List.drop_zero, Nat.sub_zero]
  by_cases h : n ≤ xs.length
  · rw [Nat.min_eq_left h]
  · rw [Nat.min_eq_right (by omega), List.take_length, List.take_of_length_le (by omega)]
/-- what stands behind the sixth row: the book and the other, the evenings and the turned -/
structure Lw (K : PySem.W.Frag) (k : Kd) (m : Nat) (rs : List Rl) (evs : List (List Bool)) (v3 v6 : V) (e5 e7 : Addr) (H : Hp) : Prop where
  ok : Ok k m rs
  len : rs.length ≤ 63
  evl : evs.length = 3
  evm : ∀ ev ∈ evs, ev.length = m
  book : Tp K H v3 (dK k rs)
  other : Tp K H v6 (dK k.x (rs.map xR))
  eve : ∃ ys, SqL K H e5 ys ∧ TpA K H ys (evs.map dE)
  tur : ∃ ys, SqL K H e7 ys ∧ TpA K H ys ((evs.map fun ev => ev.map (!·)).map dE)
theorem Lw.on {K : PySem.W.Frag} {k : Kd} {m : Nat} {rs : List Rl} {evs : List (List Bool)} {v3 v6 : V} {e5 e7 : Addr} {H H' : Hp} (l : Lw K k m rs evs v3 v6 e5 e7 H) (s : Same H H') : Lw K k m rs evs v3 v6 e5 e7 H' := by
  obtain ⟨ys, h1, h2⟩ := l.eve
  obtain ⟨zs, h3, h4⟩ := l.tur
  exact ⟨l.ok, l.len, l.evl, l.evm, l.book.same s, l.other.same s, ⟨ys, s.seq h1, h2.same s⟩, ⟨zs, s.seq h3, h4.same s⟩⟩
theorem Lw.ev {K : PySem.W.Frag} {k : Kd} {m : Nat} {rs : List Rl} {evs : List (List Bool)} {v3 v6 : V} {e5 e7 : Addr} {H : Hp} (l : Lw K k m rs evs v3 v6 e5 e7 H) {i : Nat} (hi : i < 3) :
    ∃ ev ys zs x y, ev.length = m ∧ SqL K H e5 ys ∧ ys[i]? = some x ∧ Tp K H x (dE ev) ∧ SqL K H e7 zs ∧ zs[i]? = some y ∧ Tp K H y (dE (ev.map (!·))) ∧ evs[i]? = some ev := by
  obtain ⟨ys, h1, h2⟩ := l.eve
  obtain ⟨zs, h3, h4⟩ := l.tur
  have hi' : i < evs.length := by
    rw [l.evl]
    exact hi
  have he := List.getElem?_eq_getElem hi'
  obtain ⟨x, ex, tx⟩ := h2.atM he
  obtain ⟨y, ey, ty⟩ := h4.atM (y := evs[i].map (!·)) (by rw [List.getElem?_map, he]; rfl)
  exact ⟨evs[i], ys, zs, x, y, l.evm _ (List.mem_of_getElem? he), h1, ex, tx, h3, ey, ty, he⟩
/-- the slots -/
abbrev sg (a : Addr) (k : Kd) (m : Nat) (v3 : Option V) (v4 : Option V) (v5 v6 v7 v8 v9 : Option V) : L2.St := [some (.ref a), some (.str k.str), some (vI m), v3, v4, v5, v6, v7, v8, v9, none, none]
section
variable {P : Program} {w : World} {K : PySem.W.Frag} {mg : Str → Option Value} {base : Heap}
theorem ok_law {f : Addr} {fd : FuncData} (F : Fun K "law" "law" sLaw f fd) (T : Bl mg)
    (Dkind : Df P w K mg base "_law_kind" 1 ["cell"] spKind) (Dcell : Df P w K mg base "_law_cell" 1 ["script", "k"] (spCell K)) (Drule : Df P w K mg base "_law_rule" 2 ["kind", "cell", "many"] (spRule K))
    (Dbits : Df P w K mg base "_law_bits" 2 ["cell", "many"] (spBits K)) (Dbool : Df P w K mg base "_law_bool" 1 ["found", "due"] spBool) (Dxbo : Df P w K mg base "exchanged" 2 ["book"] (spXbo K))
    (Dxev : Df P w K mg base "exchanged_evening" 1 ["evening"] (spXev K)) (Dbrk : Df P w K mg base "broken_rules" 2 ["book", "evening"] (spBrk K)) (Dhol : Df P w K mg base "holds" 3 ["book", "evening"] (spHol K))
    (Dblend : Df P w K mg base "blended" 1 ["kind", "evenings"] (spBlend K)) (Dleb : Df P w K mg base "left_behind" 3 ["book", "beacon", "lit"] (spLeb K)) : FnOk P w K mg base CX0 4 f fd ["script"] (spLaw K) := by
  refine F.ok scLaw (fun vs H Q E h => ?_) (fun cdv A outer s H vs Q E hr h => ?_)
  · obtain ⟨a, ns, rfl, _⟩ := h
    rfl
  · obtain ⟨a, ns, rfl, hS, hlen, q⟩ := h
    have hr1 : Room 1 (A.deeper (envOfC "law" (defScope sLaw) s.heap.objs.size f cdv)) := hr.mono (by decide)
    have hr2 : Room 2 (A.deeper (envOfC "law" (defScope sLaw) s.heap.objs.size f cdv)) := hr.mono (by decide)
    refine ⟨_, pss_cons (ps_set (i := 1) scLaw.nd rfl (Or.inr rfl) (pe_call Dkind.ok hr1 (by rfl) Dkind.g Dkind.kp Dkind.b .nil pass0 (pa_cons (pe_call Dcell.ok hr1 (by rfl) Dcell.g Dcell.kp Dcell.b .nil pass0 (pa_cons (pv 0) (pa_cons pe_int pa_nil))) pa_nil)))
      (C8.pss_cut (ps_set (i := 2) scLaw.nd rfl (Or.inr rfl) (pe_op op_add pe_int (pe_op op_mod (pe_op op_fdiv (pe_call Dcell.ok hr1 (by rfl) Dcell.g Dcell.kp Dcell.b .nil pass0 (pa_cons (pv 0) (pa_cons pe_int pa_nil))) pe_int) pe_int)))
      (pss_cons (ps_set (i := 3) scLaw.nd rfl (Or.inl rfl) (pe_tup (pa_cons (pv 1) (pa_cons (pe_callTy call_tuple_of (by rfl) T.tuple (by decide +kernel) (pa_cons
        (pe_lc (own := [("cell", 10)]) (g := gName 10) (tt := tYes) (by rfl) scLaw.nd (pi_list (pe_slice sl_list (pv 0) (po_some pe_int) (po_some pe_int))) (blkOk_by (own := [("cell", 10)]) (N := nLaw) (sc := defScope sLaw) (by decide +kernel))
          (fun _ _ _ _ _ => pg_name (i := 10) scLaw.nd rfl (Or.inl rfl)) (fun _ _ _ _ _ => pts_nil)
          (fun _ _ _ _ _ => pe_call Drule.ok hr2 (by rfl) Drule.g Drule.kp Drule.b .nil pass0 (pa_cons (pv 1) (pa_cons (pv 10) (pa_cons (pv 2) pa_nil))))) pa_nil)) pa_nil))))
      (pss_cons (ps_setLc (i := 5) (own := [("k", 4)]) (g := gName 4) (tt := tYes) (by rfl) scLaw.nd rfl rfl (sw_true rfl rfl rfl (by decide +kernel)) (pi_range1 (by rfl) T.range (pa_cons pe_int pa_nil))
        (blkOk_by (own := [("k", 4)]) (N := nLaw) (sc := defScope sLaw) (by decide +kernel)) (fun _ _ _ _ _ => pg_name (i := 4) scLaw.nd rfl (Or.inl rfl)) (fun _ _ _ _ _ => pts_nil)
        (fun _ _ _ _ _ => pe_callTy (call_tupleK K rfl) (by rfl) T.tuple (by decide +kernel) (pa_cons (pe_call Dbits.ok hr2 (by rfl) Dbits.g Dbits.kp Dbits.b .nil pass0 (pa_cons
          (pe_call Dcell.ok hr1 (by rfl) Dcell.g Dcell.kp Dcell.b .nil pass0 (pa_cons (pv 0) (pa_cons (pe_op op_add pe_int (pv 4)) pa_nil))) (pa_cons (pv 2) pa_nil))) pa_nil)))
      (pss_cons (ps_set (i := 6) scLaw.nd rfl (Or.inl rfl) (pe_call Dxbo.ok hr2 (by rfl) Dxbo.g Dxbo.kp Dxbo.b .nil pass0 (pa_cons (pv 3) pa_nil)))
      (C8.pss_cut (ps_setLc (i := 7) (own := [("evening", 11)]) (g := gName 11) (tt := tYes) (by rfl) scLaw.nd rfl rfl (sw_true rfl rfl rfl (by decide +kernel)) (pi_list (pv 5))
        (blkOk_by (own := [("evening", 11)]) (N := nLaw) (sc := defScope sLaw) (by decide +kernel)) (fun _ _ _ _ _ => pg_name (i := 11) scLaw.nd rfl (Or.inl rfl)) (fun _ _ _ _ _ => pts_nil)
        (fun _ _ _ _ _ => pe_call Dxev.ok hr1 (by rfl) Dxev.g Dxev.kp Dxev.b .nil pass0 (pa_cons (pv 11) pa_nil)))
      (C8.pss_cut (ps_for PassesOwn.never rfl (pi_range1 (by rfl) T.range (pa_cons pe_int pa_nil)) (pg_name (i := 4) scLaw.nd rfl (Or.inl rfl))
        (pss_cons (ps_if (pt_cmpR (op_neD hr.units) (pe_call Dbrk.ok hr2 (by rfl) Dbrk.g Dbrk.kp Dbrk.b .nil pass0 (pa_cons (pv 6) (pa_cons (pe_ix ix_list (pv 7) (pv 4) (fun _ _ => rfl)) pa_nil)))
            (pe_call Dbrk.ok hr2 (by rfl) Dbrk.g Dbrk.kp Dbrk.b .nil pass0 (pa_cons (pv 3) (pa_cons (pe_ix ix_list (pv 5) (pv 4) (fun _ _ => rfl)) pa_nil))) (nomark _)) (pss_one (ps_ret pe_bl)) pss_nil)
        (pss_one (ps_if (pt_not (pt_val (pe_call Dbool.ok hr1 (by rfl) Dbool.g Dbool.kp Dbool.b .nil pass0 (pa_cons
            (pe_call Dhol.ok hr (by rfl) Dhol.g Dhol.kp Dhol.b .nil pass0 (pa_cons (pv 6) (pa_cons (pe_ix ix_list (pv 7) (pv 4) (fun _ _ => rfl)) pa_nil))) (pa_cons
            (pe_call Dhol.ok hr (by rfl) Dhol.g Dhol.kp Dhol.b .nil pass0 (pa_cons (pv 3) (pa_cons (pe_ix ix_list (pv 5) (pv 4) (fun _ _ => rfl)) pa_nil))) pa_nil))))) (pss_one (ps_ret pe_bl)) pss_nil))))
      (C8.pss_cut (ps_set (i := 8) scLaw.nd rfl (Or.inl rfl) (pe_op op_add pe_int (pe_callTy call_int1 (by rfl) T.int (by decide +kernel) (pa_cons
        (pe_or (pe_cmpR op_eq (pv 1) pe_str (nomark _)) (pe_one (pe_cmpR op_eq (pv 1) pe_str (nomark _)))) pa_nil))))
      (pss_cons (ps_if (pt_cmpR (op_neD hr.units) (pe_call Dblend.ok hr1 (by rfl) Dblend.g Dblend.kp Dblend.b .nil pass0 (pa_cons (pe_ix ix_tup (pv 6) pe_int (fun _ _ => rfl)) (pa_cons (pe_slice sl_list (pv 7) po_none (po_some (pv 8))) pa_nil)))
          (pe_call Dxev.ok hr1 (by rfl) Dxev.g Dxev.kp Dxev.b .nil pass0 (pa_cons (pe_call Dblend.ok hr1 (by rfl) Dblend.g Dblend.kp Dblend.b .nil pass0 (pa_cons (pv 1) (pa_cons (pe_slice sl_list (pv 5) po_none (po_some (pv 8))) pa_nil))) pa_nil)) (nomark _))
        (pss_one (ps_ret pe_bl)) pss_nil)
      (pss_cons (ps_for PassesOwn.never rfl (pi_range1 (by rfl) T.range (pa_cons (pv 2) pa_nil)) (pg_name (i := 9) scLaw.nd rfl (Or.inl rfl))
        (pss_cons (ps_set (i := 3) scLaw.nd rfl (Or.inl rfl) (pe_call Dleb.ok hr (by rfl) Dleb.g Dleb.kp Dleb.b .nil pass0 (pa_cons (pv 3) (pa_cons (pv 9) (pa_cons (pe_ix ix_tup (pe_ix ix_list (pv 5) pe_int (fun _ _ => rfl)) (pv 9) (fun _ _ => rfl)) pa_nil)))))
        (pss_cons (ps_set (i := 6) scLaw.nd rfl (Or.inl rfl) (pe_call Dleb.ok hr (by rfl) Dleb.g Dleb.kp Dleb.b .nil pass0 (pa_cons (pv 6) (pa_cons (pv 9) (pa_cons (pe_not (pe_ix ix_tup (pe_ix ix_list (pv 5) pe_int (fun _ _ => rfl)) (pv 9) (fun _ _ => rfl))) pa_nil)))))
        (pss_one (ps_if (pt_cmpR (op_neD hr.units) (pe_call Dxbo.ok hr2 (by rfl) Dxbo.g Dxbo.kp Dxbo.b .nil pass0 (pa_cons (pv 3) pa_nil)) (pv 6) (nomark _)) (pss_one (ps_ret pe_bl)) pss_nil)))))
      (pss_one (ps_ret pe_bl))))))))))), ?_⟩
    have n0 : ([V.ref a, V.int 0] : List V) = [V.ref a, vI 0] := rfl
    -- kind, many
    refine ⟨_, rfl, a, ns, 0, rfl, hS, fun z0 => ?_⟩
    refine ⟨z0, rfl, fun H1 k s1 => ?_⟩
    refine ⟨fun σ H2 => ∃ m, 1 ≤ m ∧ m ≤ 60 ∧ H2 = H1 ∧ σ = sg a k m none none none none none none none, ?_, ?_⟩
    · refine ⟨_, rfl, a, ns, 0, rfl, s1.seq hS, fun z1 => ?_⟩
      refine ⟨_, _, rfl, rfl, ⟨by decide, by decide⟩, _, _, rfl, rfl, (by show (0 : Int) < 60; decide), _, _, rfl, rfl, ?_⟩
      obtain ⟨b, eb, hb⟩ := beacon_of (z := z1 / 4) (m := 60) (by decide)
      refine ⟨1 + b, by omega, by omega, rfl, ?_⟩
      have e : V.int (1 + z1 / 4 % 60) = vI (1 + b) := congrArg V.int (by omega)
      show [some (V.ref a), some (V.str k.str), some (V.int (1 + z1 / 4 % 60)), none, none, none, none, none, none, none, none, none] = _
      rw [e]
    rintro σ' H' ⟨m, hm1, hm, rfl, rfl⟩
    -- book
    refine ⟨_, rfl, .ref a, rfl, _, rfl, _, rfl, a, _, rfl, s1.seq hS, fun p hp => ?_⟩
    have s2 := same_upd (o := .lst (cutV (ns.map V.int) (some 4) (some 63))) hp
    have hcl : (cutV (ns.map V.int) (some 4) (some 63)).length ≤ 63 := by
      have := cutV_length (ns.map V.int) (some 4) (some 63)
      rw [List.length_map] at this
      omega
    generalize hH2 : upd H' p (.lst (cutV (ns.map V.int) (some 4) (some 63))) = H2 at s2
    have hP : SqL K H2 p (cutV (ns.map V.int) (some 4) (some 63)) := by
      rw [← hH2]
      exact SqL.of upd_same
    refine ⟨p, rfl, ⟨_, hP⟩, fun D hD => lc_list (K := K) (a := p) (xs := cutV (ns.map V.int) (some 4) (some 63)) (fun i H3 => ∃ rs : List Rl, Lc K H2 D (rs.map dR) H3 ∧ rs.length = i ∧ Ok k m rs) ⟨[], Lc.start hD, rfl, fun r hr => absurd hr List.not_mem_nil⟩
      (fun i H3 _ ⟨_, lc, _⟩ => lc.same.seq hP) (fun i x H3 hx hrs => ?_) (fun H3 hrs => ?_)⟩
    · obtain ⟨rs, lc, hl, ho⟩ := hrs
      obtain ⟨z, rfl⟩ := cut_ints hx
      have hi := (List.getElem?_eq_some_iff.mp hx).1
      refine ⟨rfl, _, rfl, _, rfl, _, rfl, k, z, m, rfl, hm1, hm, fun H4 u r s4 hr tr => ?_⟩
      obtain ⟨acc, a1, a2, a3⟩ := (lc.on s4).acc hD (by rw [List.length_map]; omega)
      refine ⟨acc, a1, a2, rs ++ [r], ?_, by rw [List.length_append, hl]; rfl, fun r' hr' => ?_⟩
      · rw [List.map_append]
        exact a3 _ _ tr
      · rcases List.mem_append.mp hr' with h | h
        · exact ho r' h
        · rw [List.mem_singleton.mp h]
          exact hr
    obtain ⟨rs, lc, hl, ho⟩ := hrs
    have hrl : rs.length ≤ 63 := by omega
    obtain ⟨ys, h1, h2⟩ := lc.tuple
    refine ⟨D, ys, rfl, .inl ⟨h1, fun p2 hp2 => ?_⟩⟩
    obtain ⟨s3, t3⟩ := h2 p2 hp2
    refine ⟨(by show 2 ≤ sizeLine; decide), fun p3 hp3 => ?_⟩
    have sB : Same H (upd (upd H3 p2 (.tup ys)) p3 (.tup [.str k.str, .ref p2])) := s1.trans (s2.trans (s3.trans (same_upd hp3)))
    have tB : Tp K (upd (upd H3 p2 (.tup ys)) p3 (.tup [.str k.str, .ref p2])) (.ref p3) (dK k rs) := Tp.new (.two (.str _) t3) hp3
    generalize upd (upd H3 p2 (.tup ys)) p3 (.tup [.str k.str, .ref p2]) = H4 at sB tB
    -- evenings
    refine ⟨3, rfl, by decide, by decide, fun D2 hD2 => lc_range (lo := 0) (n := 3) (fun i H5 => ∃ evs : List (List Bool), Lc K H4 D2 (evs.map dE) H5 ∧ evs.length = i ∧ ∀ ev ∈ evs, ev.length = m) ⟨[], Lc.start hD2, rfl, fun r hr => absurd hr List.not_mem_nil⟩
      (fun i H5 hi hev => ?_) (fun H5 hev => ?_)⟩
    · obtain ⟨evs, l5, hl5, hm5⟩ := hev
      refine ⟨rfl, .ref a, rfl, _, rfl, _, _, rfl, rfl, a, ns, 1 + i, ?_, (sB.trans l5.same).seq hS, fun z => ?_⟩
      · exact congrArg (fun x => [V.ref a, V.int x]) (by omega : (1 : Int) + (0 + (i : Int)) = ((1 + i : Nat) : Int))
      · refine ⟨_, rfl, z, m, rfl, hm, fun H6 p6 ev s6 hev6 h6 => ?_⟩
        refine ⟨p6, _, rfl, .inl ⟨h6, fun p7 hp7 => ?_⟩⟩
        have s7 := same_upd (o := .tup (ev.map .bl)) hp7
        obtain ⟨acc, a1, a2, a3⟩ := (l5.on (s6.trans s7)).acc hD2 (by rw [List.length_map]; omega)
        refine ⟨acc, a1, a2, evs ++ [ev], ?_, by rw [List.length_append, hl5]; rfl, fun e he => ?_⟩
        · rw [List.map_append]
          exact a3 _ _ (Tp.new (TpA.bls (f := fun b : Bool => b)) hp7)
        · rcases List.mem_append.mp he with h | h
          · exact hm5 e h
          · rw [List.mem_singleton.mp h]
            exact hev6
    obtain ⟨evs, l5, hl5, hm5⟩ := hev
    -- other
    refine ⟨_, rfl, k, rs, _, m, rfl, ho, hrl, tB.same l5.same, fun H6 v6 s6 t6 => ?_⟩
    obtain ⟨es, h5, h6⟩ := (l5.on s6).seq
    -- turned
    refine ⟨fun σ H7 => ∃ e7, σ = sg a k m (some (.ref p3)) none (some (.ref D2)) (some v6) (some (.ref e7)) none none ∧ Lw K k m rs evs (.ref p3) v6 D2 e7 H7, ?_, ?_⟩
    · have hes : es.length = evs.length := by rw [h6.len, List.length_map]
      refine ⟨.ref D2, rfl, D2, rfl, ⟨_, h5⟩, fun D3 hD3 => lc_list (K := K) (a := D2) (xs := es) (fun i H7 => Lc K H6 D3 ((evs.take i).map fun ev => dE (ev.map (!·))) H7) (Lc.start hD3)
        (fun i H7 _ l7 => l7.same.seq h5) (fun i x H7 hx l7 => ?_) (fun H7 l7 => ?_)⟩
      · obtain ⟨ev, hev, te⟩ := h6.getM hx
        refine ⟨rfl, _, rfl, x, ev, rfl, te.same l7.same, (by rw [hm5 ev (List.mem_of_getElem? hev)]; exact hm), fun H8 u s8 t8 => ?_⟩
        rw [take_map _ hev]
        exact (l7.on s8).put hD3 (by rw [List.length_map]; exact take_len _ _ (by omega)) t8
      · rw [hes, List.take_length, (show (evs.map fun ev => dE (ev.map (!·))) = (evs.map fun ev => ev.map (!·)).map dE by rw [List.map_map]; rfl)] at l7
        exact ⟨D3, rfl, ho, hrl, hl5, hm5, ((tB.same l5.same).same s6).same l7.same, t6.same l7.same, ⟨es, l7.same.seq h5, h6.same l7.same⟩, l7.seq⟩
    rintro σ7 H7 ⟨e7, rfl, lw⟩
    -- the three evenings
    refine ⟨fun σ H8 => ∃ y4, σ = sg a k m (some (.ref p3)) y4 (some (.ref D2)) (some v6) (some (.ref e7)) none none ∧ Lw K k m rs evs (.ref p3) v6 D2 e7 H8, ?_, ?_⟩
    · refine ⟨3, rfl, by decide, by decide, ?_⟩
      refine for_range (lo := 0) (n := 3) (fun i σ H8 => ∃ y4, σ = sg a k m (some (.ref p3)) y4 (some (.ref D2)) (some v6) (some (.ref e7)) none none ∧ Lw K k m rs evs (.ref p3) v6 D2 e7 H8) ⟨none, rfl, lw⟩ ?_ (fun _ _ h => h)
      rintro i σ H8 hi ⟨y4, rfl, lw⟩
      rw [Int.zero_add]
      obtain ⟨ev, ys, zs, x, y, hev, g1, g2, g3, g4, g5, g6, _⟩ := lw.ev hi
      have okx : Ok k.x (ev.map (!·)).length (rs.map xR) := by
        rw [List.length_map, hev]
        exact lw.ok.x
      have oko : Ok k ev.length rs := by
        rw [hev]
        exact lw.ok
      have eqb : brkL k.x (ev.map (!·)) (rs.map xR) = brkL k ev rs := brk_x oko
      -- broken_rules(other, turned[k]) != broken_rules(book, evenings[k])
      refine ⟨_, rfl, .ref e7, rfl, _, rfl, e7, zs, _, y, rfl, rfl, g4, atI_nat g5, k.x, rs.map xR, ev.map (!·), v6, y, rfl, okx, (by rw [List.length_map]; exact lw.len), lw.other, g6, fun H9 q1 s9 r1 => ?_⟩
      have lw9 := lw.on s9
      refine ⟨_, rfl, .ref D2, rfl, _, rfl, D2, ys, _, x, rfl, rfl, s9.seq g1, atI_nat g2, k, rs, ev, .ref p3, x, rfl, oko, lw.len, lw9.book, g3.same s9, fun H10 q2 s10 r2 => ?_⟩
      have lw10 := lw9.on s10
      rw [eqb] at r1
      refine ⟨_, _, dp_ints (s10.seq r1), dp_ints r2, (fit_ints _).shaped (by decide), (fit_ints _).shaped (by decide), _, rfl, ?_⟩
      rw [eqv_self (fit_ints _)]
      -- not _law_bool(..)
      have s8 := s9.trans s10
      refine ⟨_, rfl, .ref e7, rfl, _, rfl, e7, zs, _, y, rfl, rfl, s8.seq g4, atI_nat g5, k.x, rs.map xR, ev.map (!·), v6, y, rfl, okx, (by rw [List.length_map]; exact lw.len), lw10.other, g6.same s8, fun H11 s11 => ?_⟩
      have lw11 := lw10.on s11
      refine ⟨_, rfl, .ref D2, rfl, _, rfl, D2, ys, _, x, rfl, rfl, (s8.trans s11).seq g1, atI_nat g2, k, rs, ev, .ref p3, x, rfl, oko, lw.len, lw11.book, g3.same (s8.trans s11), fun H12 s12 => ?_⟩
      refine ⟨_, _, rfl, _, rfl, ?_⟩
      rw [eqb, beq_self_eq_true]
      exact ⟨_, rfl, lw11.on s12⟩
    rintro σ8 H8 ⟨y4, rfl, lw⟩
    -- some
    refine ⟨fun σ H9 => H9 = H8 ∧ σ = sg a k m (some (.ref p3)) y4 (some (.ref D2)) (some v6) (some (.ref e7)) (some (vI (arity k))) none, ?_, ?_⟩
    · refine ⟨_, rfl, rfl, _, rfl, ite2 (fun c => ?_) (fun c => ?_)⟩
      · obtain rfl : k = .e := kdE.mp c
        exact .inr ⟨true, rfl, _, _, rfl, rfl, rfl, rfl⟩
      · refine ⟨_, rfl, rfl, .inr ⟨_, rfl, _, _, rfl, rfl, rfl, ?_⟩⟩
        by_cases c2 : k = .s
        · subst c2
          have e : decide (V.str Kd.s.str = V.str "sums") = true := kdS.mpr rfl
          show sg a .s m (some (.ref p3)) y4 (some (.ref D2)) (some v6) (some (.ref e7)) (some (.int (2 + if decide (V.str Kd.s.str = V.str "sums") = true then 1 else 0))) none = _
          rw [if_pos e]
          rfl
        · have e : ¬ decide (V.str k.str = V.str "sums") = true := fun z => c2 (kdS.mp z)
          show sg a k m (some (.ref p3)) y4 (some (.ref D2)) (some v6) (some (.ref e7)) (some (.int (2 + if decide (V.str k.str = V.str "sums") = true then 1 else 0))) none = _
          rw [if_neg e]
          cases k
          · exact absurd (kdE.mpr rfl) c
          · exact absurd rfl c2
          · rfl
          · rfl
    rintro σ9 H9 ⟨rfl, rfl⟩
    -- the blends
    have ar3 : arity k ≤ 3 ∧ 1 ≤ arity k := by cases k <;> decide
    obtain ⟨a6, r6, xs6, rfl, hS6, _, _⟩ := book_inv lw.other
    obtain ⟨es, f1, f2⟩ := lw.eve
    obtain ⟨zs, f3, f4⟩ := lw.tur
    have lt5 : (evs.take (arity k)).length = arity k := by rw [List.length_take, lw.evl]; omega
    have c7 : TpA K H9 (cutV zs none (some (arity k : Int))) (((evs.take (arity k)).map fun ev => ev.map (!·)).map dE) := by
      rw [cut_to, List.map_take, List.map_take]
      exact f4.take
    have c5 : TpA K H9 (cutV es none (some (arity k : Int))) ((evs.take (arity k)).map dE) := by
      rw [cut_to, List.map_take]
      exact f2.take
    have m5 : ∀ ev ∈ evs.take (arity k), ev.length = m := fun ev he => lw.evm ev (List.mem_of_mem_take he)
    refine ⟨.ref a6, rfl, a6, _, 0, .str k.x.str, rfl, rfl, hS6, atI_nat (j := 0) rfl, .ref e7, rfl, _, rfl, (arity k : Int), rfl, e7, zs, rfl, f3, fun q1 hq1 => ?_⟩
    have s10 := same_upd (o := .lst (cutV zs none (some (arity k : Int)))) hq1
    refine ⟨k.x, q1, _, (evs.take (arity k)).map fun ev => ev.map (!·), m, rfl, SqL.of upd_same, ?_, ?_, ?_, ?_, hm, fun H11 u1 s11 t11 => ?_⟩
    · exact c7.same s10
    · intro ev he
      obtain ⟨e0, he0, rfl⟩ := List.mem_map.mp he
      rw [List.length_map]
      exact m5 e0 he0
    · rw [List.length_map, lt5]
      exact ar3.2
    · rw [List.length_map, lt5]
      exact ar3.1
    have sC := s10.trans s11
    refine ⟨_, rfl, .ref D2, rfl, _, rfl, (arity k : Int), rfl, D2, es, rfl, sC.seq f1, fun q2 hq2 => ?_⟩
    have s12 := same_upd (o := .lst (cutV es none (some (arity k : Int)))) hq2
    refine ⟨k, q2, _, evs.take (arity k), m, rfl, SqL.of upd_same, ?_, m5, (by rw [lt5]; exact ar3.2), (by rw [lt5]; exact ar3.1), hm, fun H13 u2 s13 t13 => ?_⟩
    · exact (c5.same sC).same s12
    refine ⟨u2, _, rfl, t13, (by rw [blend_length]; exact hm), fun H14 u3 s14 t14 => ?_⟩
    have sD := s12.trans (s13.trans s14)
    have lw14 := lw.on (sC.trans sD)
    rw [blend_x lt5 m5] at t11
    refine ⟨_, _, (t11.same sD).dp, t14.dp, (fit_E _).shaped (by decide), (fit_E _).shaped (by decide), _, rfl, ?_⟩
    rw [eqv_self (fit_E _)]
    -- beacon by beacon
    refine ⟨_, rfl, (m : Int), rfl, (by omega), (by omega), ?_⟩
    rw [(show ((m : Nat) : Int).toNat = m by omega)]
    refine for_range (lo := 0) (n := m) (fun i σ H' => ∃ v3 v6 y9 rs, σ = sg a k m (some v3) y4 (some (.ref D2)) (some v6) (some (.ref e7)) (some (vI (arity k))) y9 ∧ Lw K k m rs evs v3 v6 D2 e7 H') ⟨_, _, none, rs, rfl, lw14⟩ ?_ ?_
    · rintro i σ H' hi ⟨v3, v6, y9, rs', rfl, lw⟩
      rw [Int.zero_add]
      obtain ⟨ev, ys, zs, x, y, hev, g1, g2, g3, g4, g5, g6, _⟩ := lw.ev (show 0 < 3 by decide)
      obtain ⟨e0, rfl, hE⟩ := evening_inv g3
      have hb : i < ev.length := by rw [hev]; exact hi
      refine ⟨_, rfl, .int (i : Int), rfl, .ref D2, rfl, D2, ys, 0, .ref e0, rfl, rfl, g1, atI_nat (j := 0) g2, .int (i : Int), rfl, e0, _, _, _, rfl, rfl, hE, at_ev hb, ?_⟩
      refine ⟨k, rs', v3, m, i, bitAt ev i, rfl, lw.ok, lw.len, lw.book, fun H1 u1 s1 t1 => ?_⟩
      have lw1 := lw.on s1
      refine ⟨_, rfl, .int (i : Int), rfl, .ref D2, rfl, D2, ys, 0, .ref e0, rfl, rfl, s1.seq g1, atI_nat (j := 0) g2, .int (i : Int), rfl, e0, _, _, _, rfl, rfl, same_sqT s1 hE, at_ev hb, _, rfl, ?_⟩
      refine ⟨k.x, rs'.map xR, v6, m, i, !bitAt ev i, rfl, lw.ok.x, (by rw [List.length_map]; exact lw.len), lw1.other, fun H2 u2 s2 t2 => ?_⟩
      rw [lefts_x lw.ok] at t2
      have lw2 := lw1.on s2
      have hl2 : (rs'.filterMap (leftR k i (bitAt ev i))).length ≤ 63 := Nat.le_trans (List.length_filterMap_le _ _) lw.len
      refine ⟨_, rfl, k, _, u1, m, rfl, lw.ok.left, hl2, t1.same s2, fun H3 u3 s3 t3 => ?_⟩
      refine ⟨_, rfl, _, _, t3.dp, (t2.same s3).dp, (fit_K _ _).shaped (by decide), (fit_K _ _).shaped (by decide), _, rfl, ?_⟩
      rw [eqv_self (fit_K _ _)]
      have lw3 := lw2.on s3
      exact ⟨u1, u2, _, _, rfl, lw.ok.left, hl2, lw.evl, lw.evm, (t1.same s2).same s3, t2.same s3, lw3.eve, lw3.tur⟩
    · rintro σ H' ⟨v3, v6, y9, rs', rfl, lw⟩
      exact q H'
end
end Ka

set_option Elab.async false
set_option linter.all false
set_option maxRecDepth 100000
set_option maxHeartbeats 4000000
namespace Ka
open PySem PySem.Spec PyProof.Rows L2
/-! ## what the top has written; the law's own head -/
theorem all_mk {l : PySem.W.OpenLaw} {w : World} {K : PySem.W.Frag} {h : Heap} {mg : Str → Option Value} {fa : Addr} (X : K.In h) (G : h.Ns mainGlobals mg) (hfa : mg "law" = some (.ref fa))
    {f1 f2 f3 f4 f5 f6 f7 f8 f9 f10 f11 f12 f13 f14 f15 f16 f17 f18 f19 : Addr}
    {od1 an1 od2 an2 od3 an3 od4 an4 od5 an5 od6 an6 od7 an7 od8 an8 od9 an9 od10 an10 od11 an11 od12 an12 od13 an13 od14 an14 od15 an15 od16 an16 od17 an17 od18 an18 od19 an19 : Option Addr} {sl1 sl2 sl3 sl4 sl5 sl6 sl7 sl8 sl9 sl10 sl11 sl12 sl13 sl14 sl15 sl16 sl17 sl18 sl19 : Array (Option Value)}
    {oc1 kV1 dc1 pm1 cd1 ct1 oc2 kV2 dc2 pm2 cd2 ct2 oc3 kV3 dc3 pm3 cd3 ct3 oc4 kV4 dc4 pm4 cd4 ct4 oc5 kV5 dc5 pm5 cd5 ct5 oc6 kV6 dc6 pm6 cd6 ct6 oc7 kV7 dc7 pm7 cd7 ct7 oc8 kV8 dc8 pm8 cd8 ct8 oc9 kV9 dc9 pm9 cd9 ct9 oc10 kV10 dc10 pm10 cd10 ct10 oc11 kV11 dc11 pm11 cd11 ct11 oc12 kV12 dc12 pm12 cd12 ct12 oc13 kV13 dc13 pm13 cd13 ct13 oc14 kV14 dc14 pm14 cd14 ct14 oc15 kV15 dc15 pm15 cd15 ct15 oc16 kV16 dc16 pm16 cd16 ct16 oc17 kV17 dc17 pm17 cd17 ct17 oc18 kV18 dc18 pm18 cd18 ct18 oc19 kV19 dc19 pm19 cd19 ct19 : Value}
    (a1 : PySem.W.nsIn K mainGlobals "blended" = some (some (.ref f1))) (l1 : K.lookup f1 = some ⟨oc1, od1, .func (PySem.W.fnOf "blended" "blended" (defArgs sBlend) (defBody sBlend) (defScope sBlend) .none kV1 dc1 pm1 an1 cd1 ct1), sl1⟩)
    (c1 : PySem.W.codeIn K cd1 "blended" = true) (k1 : PySem.W.keepIn K (.ref f1) = true)
    (a2 : PySem.W.nsIn K mainGlobals "exchanged_evening" = some (some (.ref f2))) (l2 : K.lookup f2 = some ⟨oc2, od2, .func (PySem.W.fnOf "exchanged_evening" "exchanged_evening" (defArgs sXev) (defBody sXev) (defScope sXev) .none kV2 dc2 pm2 an2 cd2 ct2), sl2⟩)
    (c2 : PySem.W.codeIn K cd2 "exchanged_evening" = true) (k2 : PySem.W.keepIn K (.ref f2) = true)
    (a3 : PySem.W.nsIn K mainGlobals "exchanged_rule" = some (some (.ref f3))) (l3 : K.lookup f3 = some ⟨oc3, od3, .func (PySem.W.fnOf "exchanged_rule" "exchanged_rule" (defArgs sXru) (defBody sXru) (defScope sXru) .none kV3 dc3 pm3 an3 cd3 ct3), sl3⟩)
    (c3 : PySem.W.codeIn K cd3 "exchanged_rule" = true) (k3 : PySem.W.keepIn K (.ref f3) = true)
    (a4 : PySem.W.nsIn K mainGlobals "exchanged" = some (some (.ref f4))) (l4 : K.lookup f4 = some ⟨oc4, od4, .func (PySem.W.fnOf "exchanged" "exchanged" (defArgs sXbo) (defBody sXbo) (defScope sXbo) .none kV4 dc4 pm4 an4 cd4 ct4), sl4⟩)
    (c4 : PySem.W.codeIn K cd4 "exchanged" = true) (k4 : PySem.W.keepIn K (.ref f4) = true)
    (a5 : PySem.W.nsIn K mainGlobals "rule_holds" = some (some (.ref f5))) (l5 : K.lookup f5 = some ⟨oc5, od5, .func (PySem.W.fnOf "rule_holds" "rule_holds" (defArgs sRho) (defBody sRho) (defScope sRho) .none kV5 dc5 pm5 an5 cd5 ct5), sl5⟩)
    (c5 : PySem.W.codeIn K cd5 "rule_holds" = true) (k5 : PySem.W.keepIn K (.ref f5) = true)
    (a6 : PySem.W.nsIn K mainGlobals "broken_rules" = some (some (.ref f6))) (l6 : K.lookup f6 = some ⟨oc6, od6, .func (PySem.W.fnOf "broken_rules" "broken_rules" (defArgs sBrk) (defBody sBrk) (defScope sBrk) .none kV6 dc6 pm6 an6 cd6 ct6), sl6⟩)
    (c6 : PySem.W.codeIn K cd6 "broken_rules" = true) (k6 : PySem.W.keepIn K (.ref f6) = true)
    (a7 : PySem.W.nsIn K mainGlobals "holds" = some (some (.ref f7))) (l7 : K.lookup f7 = some ⟨oc7, od7, .func (PySem.W.fnOf "holds" "holds" (defArgs sHol) (defBody sHol) (defScope sHol) .none kV7 dc7 pm7 an7 cd7 ct7), sl7⟩)
    (c7 : PySem.W.codeIn K cd7 "holds" = true) (k7 : PySem.W.keepIn K (.ref f7) = true)
    (a8 : PySem.W.nsIn K mainGlobals "either_left" = some (some (.ref f8))) (l8 : K.lookup f8 = some ⟨oc8, od8, .func (PySem.W.fnOf "either_left" "either_left" (defArgs sEil) (defBody sEil) (defScope sEil) .none kV8 dc8 pm8 an8 cd8 ct8), sl8⟩)
    (c8 : PySem.W.codeIn K cd8 "either_left" = true) (k8 : PySem.W.keepIn K (.ref f8) = true)
    (a9 : PySem.W.nsIn K mainGlobals "sum_left" = some (some (.ref f9))) (l9 : K.lookup f9 = some ⟨oc9, od9, .func (PySem.W.fnOf "sum_left" "sum_left" (defArgs sSul) (defBody sSul) (defScope sSul) .none kV9 dc9 pm9 an9 cd9 ct9), sl9⟩)
    (c9 : PySem.W.codeIn K cd9 "sum_left" = true) (k9 : PySem.W.keepIn K (.ref f9) = true)
    (a10 : PySem.W.nsIn K mainGlobals "if_left" = some (some (.ref f10))) (l10 : K.lookup f10 = some ⟨oc10, od10, .func (PySem.W.fnOf "if_left" "if_left" (defArgs sIfl) (defBody sIfl) (defScope sIfl) .none kV10 dc10 pm10 an10 cd10 ct10), sl10⟩)
    (c10 : PySem.W.codeIn K cd10 "if_left" = true) (k10 : PySem.W.keepIn K (.ref f10) = true)
    (a11 : PySem.W.nsIn K mainGlobals "rule_left" = some (some (.ref f11))) (l11 : K.lookup f11 = some ⟨oc11, od11, .func (PySem.W.fnOf "rule_left" "rule_left" (defArgs sRul) (defBody sRul) (defScope sRul) .none kV11 dc11 pm11 an11 cd11 ct11), sl11⟩)
    (c11 : PySem.W.codeIn K cd11 "rule_left" = true) (k11 : PySem.W.keepIn K (.ref f11) = true)
    (a12 : PySem.W.nsIn K mainGlobals "left_behind" = some (some (.ref f12))) (l12 : K.lookup f12 = some ⟨oc12, od12, .func (PySem.W.fnOf "left_behind" "left_behind" (defArgs sLeb) (defBody sLeb) (defScope sLeb) .none kV12 dc12 pm12 an12 cd12 ct12), sl12⟩)
    (c12 : PySem.W.codeIn K cd12 "left_behind" = true) (k12 : PySem.W.keepIn K (.ref f12) = true)
    (a13 : PySem.W.nsIn K mainGlobals "_law_cell" = some (some (.ref f13))) (l13 : K.lookup f13 = some ⟨oc13, od13, .func (PySem.W.fnOf "_law_cell" "_law_cell" (defArgs sCell) (defBody sCell) (defScope sCell) .none kV13 dc13 pm13 an13 cd13 ct13), sl13⟩)
    (c13 : PySem.W.codeIn K cd13 "_law_cell" = true) (k13 : PySem.W.keepIn K (.ref f13) = true)
    (a14 : PySem.W.nsIn K mainGlobals "_law_mixed" = some (some (.ref f14))) (l14 : K.lookup f14 = some ⟨oc14, od14, .func (PySem.W.fnOf "_law_mixed" "_law_mixed" (defArgs sMix) (defBody sMix) (defScope sMix) .none kV14 dc14 pm14 an14 cd14 ct14), sl14⟩)
    (c14 : PySem.W.codeIn K cd14 "_law_mixed" = true) (k14 : PySem.W.keepIn K (.ref f14) = true)
    (a15 : PySem.W.nsIn K mainGlobals "_law_kind" = some (some (.ref f15))) (l15 : K.lookup f15 = some ⟨oc15, od15, .func (PySem.W.fnOf "_law_kind" "_law_kind" (defArgs sKind) (defBody sKind) (defScope sKind) .none kV15 dc15 pm15 an15 cd15 ct15), sl15⟩)
    (c15 : PySem.W.codeIn K cd15 "_law_kind" = true) (k15 : PySem.W.keepIn K (.ref f15) = true)
    (a16 : PySem.W.nsIn K mainGlobals "_law_rule" = some (some (.ref f16))) (l16 : K.lookup f16 = some ⟨oc16, od16, .func (PySem.W.fnOf "_law_rule" "_law_rule" (defArgs sRule) (defBody sRule) (defScope sRule) .none kV16 dc16 pm16 an16 cd16 ct16), sl16⟩)
    (c16 : PySem.W.codeIn K cd16 "_law_rule" = true) (k16 : PySem.W.keepIn K (.ref f16) = true)
    (a17 : PySem.W.nsIn K mainGlobals "_law_bits" = some (some (.ref f17))) (l17 : K.lookup f17 = some ⟨oc17, od17, .func (PySem.W.fnOf "_law_bits" "_law_bits" (defArgs sBits) (defBody sBits) (defScope sBits) .none kV17 dc17 pm17 an17 cd17 ct17), sl17⟩)
    (c17 : PySem.W.codeIn K cd17 "_law_bits" = true) (k17 : PySem.W.keepIn K (.ref f17) = true)
    (a18 : PySem.W.nsIn K mainGlobals "_law_bool" = some (some (.ref f18))) (l18 : K.lookup f18 = some ⟨oc18, od18, .func (PySem.W.fnOf "_law_bool" "_law_bool" (defArgs sBool) (defBody sBool) (defScope sBool) .none kV18 dc18 pm18 an18 cd18 ct18), sl18⟩)
    (c18 : PySem.W.codeIn K cd18 "_law_bool" = true) (k18 : PySem.W.keepIn K (.ref f18) = true)
    (a19 : PySem.W.nsIn K mainGlobals "law" = some (some (.ref f19))) (l19 : K.lookup f19 = some ⟨oc19, od19, .func (PySem.W.fnOf "law" "law" (defArgs sLaw) (defBody sLaw) (defScope sLaw) .none kV19 dc19 pm19 an19 cd19 ct19), sl19⟩)
    (c19 : PySem.W.codeIn K cd19 "law" = true) (k19 : PySem.W.keepIn K (.ref f19) = true)
    (z1 : PySem.W.nsIn K mainGlobals "range" = some none)
    (z2 : PySem.W.nsIn K mainGlobals "len" = some none)
    (z3 : PySem.W.nsIn K mainGlobals "tuple" = some none)
    (z4 : PySem.W.nsIn K mainGlobals "sorted" = some none)
    (z5 : PySem.W.nsIn K mainGlobals "enumerate" = some none)
    (z6 : PySem.W.nsIn K mainGlobals "int" = some none)
    (z7 : PySem.W.nsIn K mainGlobals "isinstance" = some none)
    (z8 : PySem.W.nsIn K mainGlobals "bool" = some none) :
    ∃ fd : FuncData, (∀ (s : Shared) (v : Value), BindsTo s fd ⟨[v], []⟩ [("script", v)]) ∧ ∀ base : Heap, K.In base → base.Ns mainGlobals mg → FnOk l.prog w K mg base CX0 4 fa fd ["script"] (spLaw K) := by
  have e := hfa.symm.trans (PySem.W.mg_of X G a19)
  cases e
  have T : Bl mg := ⟨PySem.W.mg_none_of X G z1, PySem.W.mg_none_of X G z2, PySem.W.mg_none_of X G z3, PySem.W.mg_none_of X G z4, PySem.W.mg_none_of X G z5, PySem.W.mg_none_of X G z6, PySem.W.mg_none_of X G z7, PySem.W.mg_none_of X G z8⟩
  have F1 := fun_mk (st := sBlend) l1 c1 k1
  have F2 := fun_mk (st := sXev) l2 c2 k2
  have F3 := fun_mk (st := sXru) l3 c3 k3
  have F4 := fun_mk (st := sXbo) l4 c4 k4
  have F5 := fun_mk (st := sRho) l5 c5 k5
  have F6 := fun_mk (st := sBrk) l6 c6 k6
  have F7 := fun_mk (st := sHol) l7 c7 k7
  have F8 := fun_mk (st := sEil) l8 c8 k8
  have F9 := fun_mk (st := sSul) l9 c9 k9
  have F10 := fun_mk (st := sIfl) l10 c10 k10
  have F11 := fun_mk (st := sRul) l11 c11 k11
  have F12 := fun_mk (st := sLeb) l12 c12 k12
  have F13 := fun_mk (st := sCell) l13 c13 k13
  have F14 := fun_mk (st := sMix) l14 c14 k14
  have F15 := fun_mk (st := sKind) l15 c15 k15
  have F16 := fun_mk (st := sRule) l16 c16 k16
  have F17 := fun_mk (st := sBits) l17 c17 k17
  have F18 := fun_mk (st := sBool) l18 c18 k18
  have F19 := fun_mk (st := sLaw) l19 c19 k19
  have b1 := F1.binds (ps := ["kind", "evenings"]) fun _ _ _ _ _ _ us hl => match us, hl with | [_, _], _ => rfl
  have b2 := F2.binds (ps := ["evening"]) fun _ _ _ _ _ _ us hl => match us, hl with | [_], _ => rfl
  have b3 := F3.binds (ps := ["kind", "rule"]) fun _ _ _ _ _ _ us hl => match us, hl with | [_, _], _ => rfl
  have b4 := F4.binds (ps := ["book"]) fun _ _ _ _ _ _ us hl => match us, hl with | [_], _ => rfl
  have b5 := F5.binds (ps := ["kind", "rule", "evening"]) fun _ _ _ _ _ _ us hl => match us, hl with | [_, _, _], _ => rfl
  have b6 := F6.binds (ps := ["book", "evening"]) fun _ _ _ _ _ _ us hl => match us, hl with | [_, _], _ => rfl
  have b7 := F7.binds (ps := ["book", "evening"]) fun _ _ _ _ _ _ us hl => match us, hl with | [_, _], _ => rfl
  have b8 := F8.binds (ps := ["rule", "beacon", "lit"]) fun _ _ _ _ _ _ us hl => match us, hl with | [_, _, _], _ => rfl
  have b9 := F9.binds (ps := ["rule", "beacon", "lit"]) fun _ _ _ _ _ _ us hl => match us, hl with | [_, _, _], _ => rfl
  have b10 := F10.binds (ps := ["rule", "beacon", "so"]) fun _ _ _ _ _ _ us hl => match us, hl with | [_, _, _], _ => rfl
  have b11 := F11.binds (ps := ["kind", "rule", "beacon", "lit"]) fun _ _ _ _ _ _ us hl => match us, hl with | [_, _, _, _], _ => rfl
  have b12 := F12.binds (ps := ["book", "beacon", "lit"]) fun _ _ _ _ _ _ us hl => match us, hl with | [_, _, _], _ => rfl
  have b13 := F13.binds (ps := ["script", "k"]) fun _ _ _ _ _ _ us hl => match us, hl with | [_, _], _ => rfl
  have b14 := F14.binds (ps := ["cell", "by"]) fun _ _ _ _ _ _ us hl => match us, hl with | [_, _], _ => rfl
  have b15 := F15.binds (ps := ["cell"]) fun _ _ _ _ _ _ us hl => match us, hl with | [_], _ => rfl
  have b16 := F16.binds (ps := ["kind", "cell", "many"]) fun _ _ _ _ _ _ us hl => match us, hl with | [_, _, _], _ => rfl
  have b17 := F17.binds (ps := ["cell", "many"]) fun _ _ _ _ _ _ us hl => match us, hl with | [_, _], _ => rfl
  have b18 := F18.binds (ps := ["found", "due"]) fun _ _ _ _ _ _ us hl => match us, hl with | [_, _], _ => rfl
  have g1 := PySem.W.mg_of X G a1
  have g2 := PySem.W.mg_of X G a2
  have g3 := PySem.W.mg_of X G a3
  have g4 := PySem.W.mg_of X G a4
  have g5 := PySem.W.mg_of X G a5
  have g6 := PySem.W.mg_of X G a6
  have g7 := PySem.W.mg_of X G a7
  have g8 := PySem.W.mg_of X G a8
  have g9 := PySem.W.mg_of X G a9
  have g10 := PySem.W.mg_of X G a10
  have g11 := PySem.W.mg_of X G a11
  have g12 := PySem.W.mg_of X G a12
  have g13 := PySem.W.mg_of X G a13
  have g14 := PySem.W.mg_of X G a14
  have g15 := PySem.W.mg_of X G a15
  have g16 := PySem.W.mg_of X G a16
  have g17 := PySem.W.mg_of X G a17
  have g18 := PySem.W.mg_of X G a18
  refine ⟨PySem.W.fnOf "law" "law" (defArgs sLaw) (defBody sLaw) (defScope sLaw) .none kV19 dc19 pm19 an19 cd19 ct19, fun s v => .of_eq rfl, fun base _ _ => ?_⟩
  exact ok_law F19 T
    ⟨f15, _, ok_kind F15, k15, b15, g15⟩
    ⟨f13, _, ok_cell F13 T, k13, b13, g13⟩
    ⟨f16, _, ok_rule F16 T F14 b14 g14, k16, b16, g16⟩
    ⟨f17, _, ok_bits F17 T F14 b14 g14, k17, b17, g17⟩
    ⟨f18, _, ok_bool F18 T, k18, b18, g18⟩
    ⟨f4, _, ok_xbo F4 T F3 b3 g3, k4, b4, g4⟩
    ⟨f2, _, ok_xev F2 T, k2, b2, g2⟩
    ⟨f6, _, ok_brk F6 T F5 b5 g5, k6, b6, g6⟩
    ⟨f7, _, ok_hol F7 T F5 b5 g5 F6 b6 g6, k7, b7, g7⟩
    ⟨f1, _, ok_blend F1 T, k1, b1, g1⟩
    ⟨f12, _, ok_leb F12 T F11 b11 g11 (ok_rul F11 T F8 b8 g8 F9 b9 g9 F10 b10 g10), k12, b12, g12⟩
end Ka
open PySem PySem.W PyProof.Rows
set_option maxRecDepth 100000 in
set_option maxHeartbeats 0 in
theorem PySem.Challenge.cw_duskbook_k11_whole_exchanged_alike_holds : PySem.Challenge.rw_duskbook_k11_whole_exchanged_alike.Holds := by
  w_on; o_law; k_head; (case hw => w_witness2)
  k_fill
  refine L2.walk_of (l := PySem.Challenge.rw_duskbook_k11_whole_exchanged_alike) (n := 63) (k := 4) (x := "script") (CX := fun _ => L2.CX0) (sp := fun w => Ka.spLaw _) rfl (by decide) rfl ⟨rfl, by decide, by decide⟩
    (fun w h Y => PySem.W.kIn_of Y) ?F (fun _ _ a ns hl _ hS => ⟨a, ns, rfl, hS, hl, fun _ => rfl⟩) (fun _ _ _ _ _ h => h)
  case F =>
    intro w mg fa h KX G hmg
    refine' Ka.all_mk KX G hmg ?a1 ?l1 ?c1 ?k1 ?a2 ?l2 ?c2 ?k2 ?a3 ?l3 ?c3 ?k3 ?a4 ?l4 ?c4 ?k4 ?a5 ?l5 ?c5 ?k5 ?a6 ?l6 ?c6 ?k6 ?a7 ?l7 ?c7 ?k7 ?a8 ?l8 ?c8 ?k8 ?a9 ?l9 ?c9 ?k9 ?a10 ?l10 ?c10 ?k10 ?a11 ?l11 ?c11 ?k11 ?a12 ?l12 ?c12 ?k12 ?a13 ?l13 ?c13 ?k13 ?a14 ?l14 ?c14 ?k14 ?a15 ?l15 ?c15 ?k15 ?a16 ?l16 ?c16 ?k16 ?a17 ?l17 ?c17 ?k17 ?a18 ?l18 ?c18 ?k18 ?a19 ?l19 ?c19 ?k19 ?z1 ?z2 ?z3 ?z4 ?z5 ?z6 ?z7 ?z8
    (case a1 => k_is)
    (case l1 => k_is)
    (case c1 => k_is)
    (case k1 => k_is)
    (case a2 => k_is)
    (case l2 => k_is)
    (case c2 => k_is)
    (case k2 => k_is)
    (case a3 => k_is)
    (case l3 => k_is)
    (case c3 => k_is)
    (case k3 => k_is)
    (case a4 => k_is)
    (case l4 => k_is)
    (case c4 => k_is)
    (case k4 => k_is)
    (case a5 => k_is)
    (case l5 => k_is)
    (case c5 => k_is)
    (case k5 => k_is)
    (case a6 => k_is)
    (case l6 => k_is)
    (case c6 => k_is)
    (case k6 => k_is)
    (case a7 => k_is)
    (case l7 => k_is)
    (case c7 => k_is)
    (case k7 => k_is)
    (case a8 => k_is)
    (case l8 => k_is)
    (case c8 => k_is)
    (case k8 => k_is)
    (case a9 => k_is)
    (case l9 => k_is)
    (case c9 => k_is)
    (case k9 => k_is)
    (case a10 => k_is)
    (case l10 => k_is)
    (case c10 => k_is)
    (case k10 => k_is)
    (case a11 => k_is)
    (case l11 => k_is)
    (case c11 => k_is)
    (case k11 => k_is)
    (case a12 => k_is)
    (case l12 => k_is)
    (case c12 => k_is)
    (case k12 => k_is)
    (case a13 => k_is)
    (case l13 => k_is)
    (case c13 => k_is)
    (case k13 => k_is)
    (case a14 => k_is)
    (case l14 => k_is)
    (case c14 => k_is)
    (case k14 => k_is)
    (case a15 => k_is)
    (case l15 => k_is)
    (case c15 => k_is)
    (case k15 => k_is)
    (case a16 => k_is)
    (case l16 => k_is)
    (case c16 => k_is)
    (case k16 => k_is)
    (case a17 => k_is)
    (case l17 => k_is)
    (case c17 => k_is)
    (case k17 => k_is)
    (case a18 => k_is)
    (case l18 => k_is)
    (case c18 => k_is)
    (case k18 => k_is)
    (case a19 => k_is)
    (case l19 => k_is)
    (case c19 => k_is)
    (case k19 => k_is)
    (case z1 => k_is)
    (case z2 => k_is)
    (case z3 => k_is)
    (case z4 => k_is)
    (case z5 => k_is)
    (case z6 => k_is)
    (case z7 => k_is)
    (case z8 => k_is)
