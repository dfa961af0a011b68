import PyProof.Rows.All
import Wide.All
import OpenK.AllK
import Wide.FinOn
import PySem.Challenge.RW_nt0092_01
set_option Elab.async false

section PartPu
open PySem PyProof.Rows PySem.Calls
namespace Mine

def ch (c : Nat) : Str := ⟨#[c]⟩
def chars (P : Str) : List Nat := P.cps.toList
theorem chars_len (P : Str) : (chars P).length = P.length := by simp [chars, Str.length]
theorem ch_beq (c d : Nat) : (ch c == ch d) = decide (c = d) := by
  by_cases h : c = d
  · subst h; simp
  · have : ch c ≠ ch d := fun e => h (by simpa [ch] using e)
    simp [h, this]
theorem of_item (c : Str) (d : Nat) (e : Str) (he : e = ch d) : (Txt.item c 0 == e) = (Txt.item c 0 == ch d) := by rw [he]

/-- the sign at a place -/
def at_ (P : Str) (i : Int) : Nat := (chars P).getD i.toNat 0
theorem item_at {P : Str} {i : Int} (h0 : 0 ≤ i) (h1 : i < P.length) : Txt.item P i = ch (at_ P i) := by
  obtain ⟨n, rfl⟩ : ∃ n : Nat, i = n := ⟨i.toNat, by omega⟩
  have hn : n < P.cps.size := by have : (n : Int) < (P.cps.size : Int) := h1; omega
  unfold Txt.item Txt.charAt ch at_ chars
  have e : PySem.seqIndex? (n : Int) P.length = some n := by
    unfold seqIndex?
    have h2 : ¬ ((n : Int) < 0) := by omega
    have h3 : (n : Int) < (P.length : Int) := h1
    simp only [h2, if_false]
    first
    | (rw [if_pos (by omega)]; simp)
    | simp [hn, Str.length]
  rw [e]
  simp [hn]

theorem drop_at {P : Str} {i : Int} (h0 : 0 ≤ i) (h1 : i < P.length) : (chars P).drop i.toNat = at_ P i :: (chars P).drop (i + 1).toNat := by
  have hl := chars_len P
  have hn : i.toNat < (chars P).length := by omega
  rw [List.drop_eq_getElem_cons hn]
  have e : (i + 1).toNat = i.toNat + 1 := by omega
  rw [e]
  congr 1
  unfold at_
  rw [List.getD_eq_getElem?_getD, List.getElem?_eq_getElem hn]
  rfl
theorem drop_end {P : Str} {i : Int} (h1 : P.length ≤ i) : (chars P).drop i.toNat = [] := by
  have hl := chars_len P
  exact List.drop_eq_nil_of_le (by omega)

/-- a lot's ranges, from behind its head to its end: what it holds, what stands behind it -/
def lotGo : List Nat → List (Nat × Nat) → Option (List (Nat × Nat) × List Nat)
  | [], _ => none
  | c :: r, acc =>
    if c = 93 then some (acc, r) else
    match r with
    | 45 :: d :: r' => if d = 93 then lotGo (45 :: d :: r') (acc ++ [(c, c)]) else lotGo r' (acc ++ [(c, d)])
    | r => lotGo r (acc ++ [(c, c)])
termination_by l => l.length

theorem lotGo_nil (acc : List (Nat × Nat)) : lotGo [] acc = none := by rw [lotGo]
theorem lotGo_stop (r : List Nat) (acc : List (Nat × Nat)) : lotGo (93 :: r) acc = some (acc, r) := by rw [lotGo.eq_def]; simp
theorem lotGo_range {c d : Nat} (r : List Nat) (acc : List (Nat × Nat)) (h : c ≠ 93) (h' : d ≠ 93) : lotGo (c :: 45 :: d :: r) acc = lotGo r (acc ++ [(c, d)]) := by
  rw [lotGo.eq_def]; simp [h, h']
theorem lotGo_one {c : Nat} (r : List Nat) (acc : List (Nat × Nat)) (h : c ≠ 93) (h' : ∀ d r', r = 45 :: d :: r' → d = 93) : lotGo (c :: r) acc = lotGo r (acc ++ [(c, c)]) := by
  rw [lotGo.eq_def]
  simp only [h, if_false]
  split
  · rename_i d r' 
    have := h' d r' rfl
    simp [this]
  · rfl

/-- the same from a place of a text -/
def goAt (P : Str) (i : Int) (acc : List (Nat × Nat)) : Option (List (Nat × Nat) × List Nat) := lotGo ((chars P).drop i.toNat) acc
theorem goAt_end {P : Str} {i : Int} (acc : List (Nat × Nat)) (h : P.length ≤ i) : goAt P i acc = none := by
  unfold goAt; rw [drop_end h, lotGo_nil]
theorem goAt_stop {P : Str} {i : Int} (acc : List (Nat × Nat)) (h0 : 0 ≤ i) (h1 : i < P.length) (h : at_ P i = 93) : goAt P i acc = some (acc, (chars P).drop (i + 1).toNat) := by
  unfold goAt; rw [drop_at h0 h1, h, lotGo_stop]
theorem goAt_range {P : Str} {i : Int} (acc : List (Nat × Nat)) (h0 : 0 ≤ i) (h1 : i + 2 < P.length) (h : at_ P i ≠ 93) (h' : at_ P (i + 1) = 45) (h'' : at_ P (i + 2) ≠ 93) :
    goAt P i acc = goAt P (i + 3) (acc ++ [(at_ P i, at_ P (i + 2))]) := by
  unfold goAt
  rw [drop_at h0 (by omega), drop_at (i := i + 1) (by omega) (by omega), h', show i + 1 + 1 = i + 2 by omega, drop_at (i := i + 2) (by omega) (by omega), lotGo_range _ _ h h'', show i + 2 + 1 = i + 3 by omega]
theorem goAt_one {P : Str} {i : Int} (acc : List (Nat × Nat)) (h0 : 0 ≤ i) (h1 : i < P.length) (h : at_ P i ≠ 93) (h' : ¬ (i + 2 < P.length ∧ at_ P (i + 1) = 45 ∧ at_ P (i + 2) ≠ 93)) :
    goAt P i acc = goAt P (i + 1) (acc ++ [(at_ P i, at_ P i)]) := by
  unfold goAt
  rw [drop_at h0 h1]
  refine lotGo_one _ _ h fun d r' e => ?_
  have hl := chars_len P
  by_cases h2 : i + 2 < P.length
  · rw [drop_at (i := i + 1) (by omega) (by omega), show i + 1 + 1 = i + 2 by omega, drop_at (i := i + 2) (by omega) (by omega)] at e
    injection e with e1 e2
    injection e2 with e2 e3
    rw [← e2]
    by_cases h3 : at_ P (i + 2) = 93
    · exact h3
    · exact absurd ⟨h2, e1, h3⟩ h'
  · have : ((chars P).drop (i + 1).toNat).length = (d :: r').length + 1 := by rw [e]; rfl
    rw [List.length_drop] at this
    simp only [List.length_cons] at this
    omega
end Mine

namespace Mine
/-- behind the head's ^: a first ] is a sign of the lot -/
def lotB (neg : Bool) (l : List Nat) : Option (Bool × List (Nat × Nat) × List Nat) :=
  (if l.head? = some 93 then lotGo l.tail [(93, 93)] else lotGo l []).map fun x => (neg, x.1, x.2)
/-- a lot from behind its [ : turned, the ranges, what stands behind it -/
def lotL (l : List Nat) : Option (Bool × List (Nat × Nat) × List Nat) := if l.head? = some 94 then lotB true l.tail else lotB false l
def lotAt (P : Str) (i : Int) : Option (Bool × List (Nat × Nat) × List Nat) := lotL ((chars P).drop i.toNat)

theorem head_at {P : Str} {i : Int} (h0 : 0 ≤ i) (h1 : i < P.length) : ((chars P).drop i.toNat).head? = some (at_ P i) := by rw [drop_at h0 h1]; rfl
theorem tail_at {P : Str} {i : Int} (h0 : 0 ≤ i) (h1 : i < P.length) : ((chars P).drop i.toNat).tail = (chars P).drop (i + 1).toNat := by rw [drop_at h0 h1]; rfl
theorem head_end {P : Str} {i : Int} (h1 : ¬ i < P.length) : ((chars P).drop i.toNat).head? = none := by rw [drop_end (by omega)]; rfl

theorem lotAt_neg {P : Str} {i : Int} (h0 : 0 ≤ i) (h1 : i < P.length) (h : at_ P i = 94) : lotAt P i = lotB true ((chars P).drop (i + 1).toNat) := by
  unfold lotAt lotL; rw [head_at h0 h1, h, if_pos rfl, tail_at h0 h1]
theorem lotAt_pos {P : Str} {i : Int} (h0 : 0 ≤ i) (h : i < P.length → at_ P i ≠ 94) : lotAt P i = lotB false ((chars P).drop i.toNat) := by
  unfold lotAt lotL
  by_cases h1 : i < P.length
  · rw [head_at h0 h1, if_neg (by simpa using h h1)]
  · rw [head_end h1, if_neg (by simp)]
def fin (neg : Bool) (x : Option (List (Nat × Nat) × List Nat)) : Option (Bool × List (Nat × Nat) × List Nat) := x.map fun x => (neg, x.1, x.2)
theorem lotB_first {P : Str} {i : Int} {neg : Bool} (h0 : 0 ≤ i) (h1 : i < P.length) (h : at_ P i = 93) : lotB neg ((chars P).drop i.toNat) = fin neg (goAt P (i + 1) [(93, 93)]) := by
  unfold lotB fin goAt; rw [head_at h0 h1, h, if_pos rfl, tail_at h0 h1]
theorem lotB_plain {P : Str} {i : Int} {neg : Bool} (h0 : 0 ≤ i) (h : i < P.length → at_ P i ≠ 93) : lotB neg ((chars P).drop i.toNat) = fin neg (goAt P i []) := by
  unfold lotB fin goAt
  by_cases h1 : i < P.length
  · rw [head_at h0 h1, if_neg (by simpa using h h1)]
  · rw [head_end h1, if_neg (by simp)]

theorem ofS_hat : Str.ofString "^" = ch 94 := by decide
theorem ofS_end : Str.ofString "]" = ch 93 := by decide
theorem ofS_dash : Str.ofString "-" = ch 45 := by decide
theorem beq_ch_t {c d : Nat} (h : (ch c == ch d) = true) : c = d := by rw [ch_beq] at h; exact of_decide_eq_true h
theorem beq_ch_f {c d : Nat} (h : (ch c == ch d) = false) : c ≠ d := by rw [ch_beq] at h; exact of_decide_eq_false h
theorem item_is {P : Str} {i : Int} {d : Nat} {b : Bool} (h0 : 0 ≤ i) (h1 : i < P.length) (h : (Txt.item P i == ch d) = b) : decide (at_ P i = d) = b := by rw [item_at h0 h1, ch_beq] at h; exact h
theorem item_yes {P : Str} {i : Int} {d : Nat} {e : Str} (h0 : 0 ≤ i) (h1 : i < P.length) (h : (Txt.item P i == e) = true) (he : e = ch d) : at_ P i = d := by subst he; exact of_decide_eq_true (item_is h0 h1 h)
theorem item_no {P : Str} {i : Int} {d : Nat} {e : Str} (h0 : 0 ≤ i) (h1 : i < P.length) (h : (Txt.item P i == e) = false) (he : e = ch d) : at_ P i ≠ d := by subst he; exact of_decide_eq_false (item_is h0 h1 h)

/-- a pair of signs on the ledger; a list of them -/
abbrev tupOf (its : Array Value) : Obj := { cls := .type "tuple", data := .seq its }
def PairIn (led : List (Addr × Obj)) (v : Value) (p : Nat × Nat) : Prop := ∃ a t1 t2, v = .ref a ∧ (a, tupOf #[.str (ch p.1) t1, .str (ch p.2) t2]) ∈ led
def PairsIn (led : List (Addr × Obj)) : List Value → List (Nat × Nat) → Prop
  | [], [] => True
  | v :: vs, p :: ps => PairIn led v p ∧ PairsIn led vs ps
  | _, _ => False
theorem PairIn.mono {led led' : List (Addr × Obj)} {v : Value} {p : Nat × Nat} (h : PairIn led v p) (s : ∀ q ∈ led, q ∈ led') : PairIn led' v p := by
  obtain ⟨a, t1, t2, e, hm⟩ := h
  exact ⟨a, t1, t2, e, s _ hm⟩
theorem PairsIn.mono {led led' : List (Addr × Obj)} (s : ∀ q ∈ led, q ∈ led') : ∀ {vs : List Value} {ps : List (Nat × Nat)}, PairsIn led vs ps → PairsIn led' vs ps
  | [], [], _ => trivial
  | [], _ :: _, h => h.elim
  | _ :: _, [], h => h.elim
  | _ :: _, _ :: _, h => ⟨h.1.mono s, h.2.mono s⟩
theorem PairsIn.snoc {led : List (Addr × Obj)} {v : Value} {p : Nat × Nat} (hv : PairIn led v p) : ∀ {vs : List Value} {ps : List (Nat × Nat)}, PairsIn led vs ps → PairsIn led (vs ++ [v]) (ps ++ [p])
  | [], [], _ => ⟨hv, trivial⟩
  | [], _ :: _, h => h.elim
  | _ :: _, [], h => h.elim
  | _ :: _, _ :: _, h => ⟨h.1, h.2.snoc hv⟩
theorem PairsIn.push {led : List (Addr × Obj)} {v : Value} {p : Nat × Nat} {vs : Array Value} {ps : List (Nat × Nat)} (h : PairsIn led vs.toList ps) (hv : PairIn led v p) : PairsIn led (vs.push v).toList (ps ++ [p]) := by
  rw [Array.toList_push]; exact h.snoc hv

/-- fresh entries ahead of the old ones -/
def Fresh (news led : List (Addr × Obj)) : Prop := ∃ tl, led = tl ++ news ∧ ∀ q ∈ tl, ∀ p ∈ news, p.1 < q.1
theorem Fresh.refl {news : List (Addr × Obj)} : Fresh news news := ⟨[], rfl, fun _ h => nomatch h⟩
theorem Fresh.cons {news led : List (Addr × Obj)} {a : Addr} {o : Obj} (h : Fresh news led) (ha : ∀ p ∈ news, p.1 < a) : Fresh news ((a, o) :: led) := by
  obtain ⟨tl, rfl, h⟩ := h
  refine ⟨(a, o) :: tl, rfl, fun q hq p hp => ?_⟩
  rcases List.mem_cons.mp hq with rfl | hq
  · exact ha p hp
  · exact h q hq p hp
theorem Fresh.sub {news led : List (Addr × Obj)} (h : Fresh news led) : ∀ p ∈ news, p ∈ led := by
  obtain ⟨tl, rfl, h⟩ := h
  exact fun p hp => List.mem_append_right _ hp
theorem Fresh.trans {a b c : List (Addr × Obj)} (h : Fresh a b) (k : Fresh b c) : Fresh a c := by
  obtain ⟨t, rfl, h⟩ := h
  obtain ⟨t', rfl, k⟩ := k
  refine ⟨t' ++ t, (List.append_assoc _ _ _).symm, fun q hq p hp => ?_⟩
  rcases List.mem_append.mp hq with hq | hq
  · exact k q hq p (List.mem_append_right _ hp)
  · exact h q hq p hp
theorem item_ne_t {P : Str} {i : Int} {d : Nat} {e : Str} (h0 : 0 ≤ i) (h1 : i < P.length) (h : (Txt.item P i != e) = true) (he : e = ch d) : at_ P i ≠ d :=
  item_no h0 h1 (by simpa [bne] using h) he
theorem item_ne_f {P : Str} {i : Int} {d : Nat} {e : Str} (h0 : 0 ≤ i) (h1 : i < P.length) (h : (Txt.item P i != e) = false) (he : e = ch d) : at_ P i = d :=
  item_yes h0 h1 (by simpa [bne] using h) he
theorem pair_items {led : List (Addr × Obj)} {P : Str} {i j : Int} {D : Addr} {t1 t2 : Tok} (h : (D, tupOf #[.str (Txt.item P i) t1, .str (Txt.item P j) t2]) ∈ led) (h0 : 0 ≤ i) (h1 : i < P.length) (h2 : 0 ≤ j) (h3 : j < P.length) :
    PairIn led (.ref D) (at_ P i, at_ P j) := by
  rw [item_at h0 h1, item_at h2 h3] at h
  exact ⟨D, t1, t2, rfl, h⟩
theorem lotgo_some {P : Str} {i j : Int} {neg : Bool} {prs : List (Nat × Nat)} (h0 : 0 ≤ i) (h1 : i < P.length) (h : at_ P i = 93) (e : fin neg (goAt P i prs) = lotAt P j) : lotAt P j = some (neg, prs, (chars P).drop (i + 1).toNat) := by
  rw [← e, goAt_stop _ h0 h1 h]; rfl
theorem lotgo_none {P : Str} {i j : Int} {neg : Bool} {prs : List (Nat × Nat)} (h1 : ¬ i < P.length) (e : fin neg (goAt P i prs) = lotAt P j) : lotAt P j = none := by
  rw [← e, goAt_end _ (by omega)]; rfl

theorem at_mem {P : Str} {i : Int} (h0 : 0 ≤ i) (h1 : i < P.length) : at_ P i ∈ chars P := by
  have h : at_ P i ∈ (chars P).drop i.toNat := by rw [drop_at h0 h1]; exact .head _
  exact List.mem_of_mem_drop h

/-- a part of a pattern that has no * and no ? -/
inductive PartD where
  | sign (c : Nat)
  | lot (neg : Bool) (prs : List (Nat × Nat))
/-- what the parts of a pattern are -/
inductive PartsR : List Nat → Option (List PartD) → Prop where
  | nil : PartsR [] (some [])
  | bad {r} : lotL r = none → PartsR (91 :: r) none
  | lot {r neg prs rest o} : lotL r = some (neg, prs, rest) → PartsR rest o → PartsR (91 :: r) (o.map (PartD.lot neg prs :: ·))
  | sign {c r o} : c ≠ 91 → PartsR r o → PartsR (c :: r) (o.map (PartD.sign c :: ·))
theorem PartsR.det {l : List Nat} {o o' : Option (List PartD)} (h : PartsR l o) (h' : PartsR l o') : o = o' := by
  induction h generalizing o' with
  | nil => cases h'; rfl
  | bad e =>
    cases h' with
    | bad _ => rfl
    | lot e' _ => rw [e] at e'; cases e'
    | sign hc _ => exact absurd rfl hc
  | lot e _ ih =>
    cases h' with
    | bad e' => rw [e] at e'; cases e'
    | lot e' h' => rw [e] at e'; cases e'; rw [ih h']
    | sign hc _ => exact absurd rfl hc
  | sign hc _ ih =>
    cases h' with
    | bad _ => exact absurd rfl hc
    | lot _ _ => exact absurd rfl hc
    | sign _ h' => rw [ih h']
/-- the parts so far, and what the rest will add -/
def Soon (P : Str) (i : Int) (acc : List PartD) : Prop := ∀ o, PartsR ((chars P).drop i.toNat) o → PartsR (chars P) (o.map (acc ++ ·))
theorem Soon.start {P : Str} : Soon P 0 [] := fun o h => by
  have e : o.map (([] : List PartD) ++ ·) = o := by cases o <;> rfl
  rw [e]; exact h
theorem Soon.sign {P : Str} {i : Int} {acc : List PartD} (h : Soon P i acc) (h0 : 0 ≤ i) (h1 : i < P.length) (hc : at_ P i ≠ 91) : Soon P (i + 1) (acc ++ [.sign (at_ P i)]) := fun o ho => by
  have := h _ (by rw [drop_at h0 h1]; exact PartsR.sign hc ho)
  have e : (o.map (PartD.sign (at_ P i) :: ·)).map (acc ++ ·) = o.map ((acc ++ [.sign (at_ P i)]) ++ ·) := by cases o <;> simp
  rw [← e]; exact this
theorem Soon.lot {P : Str} {i k : Int} {acc : List PartD} {neg : Bool} {prs : List (Nat × Nat)} {rest : List Nat} (h : Soon P i acc) (h0 : 0 ≤ i) (h1 : i < P.length) (hc : at_ P i = 91) (e : lotAt P (i + 1) = some (neg, prs, rest)) (hk : (chars P).drop k.toNat = rest) :
    Soon P k (acc ++ [.lot neg prs]) := fun o ho => by
  have := h _ (by rw [drop_at h0 h1, hc]; exact PartsR.lot e (by rw [← hk]; exact ho))
  have e : (o.map (PartD.lot neg prs :: ·)).map (acc ++ ·) = o.map ((acc ++ [.lot neg prs]) ++ ·) := by cases o <;> simp
  rw [← e]; exact this
theorem Soon.bad {P : Str} {i : Int} {acc : List PartD} (h : Soon P i acc) (h0 : 0 ≤ i) (h1 : i < P.length) (hc : at_ P i = 91) (e : lotAt P (i + 1) = none) : PartsR (chars P) none :=
  h none (by rw [drop_at h0 h1, hc]; exact PartsR.bad e)
theorem Soon.done {P : Str} {i : Int} {acc : List PartD} (h : Soon P i acc) (h1 : ¬ i < P.length) : PartsR (chars P) (some acc) := by
  have := h (some []) (by rw [drop_end (by omega)]; exact .nil)
  simpa using this

/-- the entries of tl are younger than those of news -/
def FreshTl (news tl : List (Addr × Obj)) : Prop := ∀ q ∈ tl, ∀ p ∈ news, p.1 < q.1
theorem FreshTl.nil {news : List (Addr × Obj)} : FreshTl news [] := fun _ h => nomatch h
theorem FreshTl.cons {news tl : List (Addr × Obj)} {a : Addr} {o : Obj} (h : FreshTl news tl) (ha : ∀ p ∈ news, p.1 < a) : FreshTl news ((a, o) :: tl) := fun q hq p hp => by
  rcases List.mem_cons.mp hq with rfl | hq
  · exact ha p hp
  · exact h q hq p hp
theorem FreshTl.append {news tl tl' : List (Addr × Obj)} (h : FreshTl news tl) (h' : FreshTl news tl') : FreshTl news (tl' ++ tl) := fun q hq p hp => (List.mem_append.mp hq).elim (fun x => h' q x p hp) fun x => h q x p hp
theorem FreshTl.sub {news news' tl : List (Addr × Obj)} (h : FreshTl news tl) (s : ∀ p ∈ news', p ∈ news) : FreshTl news' tl := fun q hq p hp => h q hq p (s p hp)

def inPair (e : Nat) (p : Nat × Nat) : Bool := decide (p.1 ≤ e) && decide (e ≤ p.2)
/-- does a part take a sign -/
def takesD : PartD → Nat → Bool
  | .sign c, e => decide (c = e)
  | .lot neg prs, e => prs.any (inPair e) != neg
theorem le_ch (a e : Nat) : (!decide ((ch e).cps.toList < (ch a).cps.toList)) = decide (a ≤ e) := by
  have h : ((ch e).cps.toList < (ch a).cps.toList) ↔ e < a := by
    show [e] < [a] ↔ e < a
    rw [List.cons_lt_cons_iff]
    constructor
    · rintro (h | ⟨_, h⟩)
      · exact h
      · exact absurd h (List.not_lt_nil _)
    · exact .inl
  by_cases h1 : e < a
  · simp [h.mpr h1]; omega
  · have h2 : ¬ ((ch e).cps.toList < (ch a).cps.toList) := fun x => h1 (h.mp x)
    simp [h2]; omega

theorem PairsIn.length {led : List (Addr × Obj)} : ∀ {vs : List Value} {ps : List (Nat × Nat)}, PairsIn led vs ps → vs.length = ps.length
  | [], [], _ => rfl
  | [], _ :: _, h => h.elim
  | _ :: _, [], h => h.elim
  | _ :: _, _ :: _, h => congrArg (· + 1) h.2.length
theorem PairsIn.get {led : List (Addr × Obj)} : ∀ {vs : List Value} {ps : List (Nat × Nat)} {i : Nat} {v : Value}, PairsIn led vs ps → vs[i]? = some v → ∃ p, ps[i]? = some p ∧ PairIn led v p
  | [], _, _, _, _, h => by simp at h
  | _ :: _, [], _, _, h, _ => h.elim
  | x :: _, p :: _, 0, v, h, e => by
    have e' : x = v := by simpa using e
    subst e'
    exact ⟨p, rfl, h.1⟩
  | _ :: _, _ :: _, i + 1, _, h, e => by
    obtain ⟨p, a, b⟩ := h.2.get (i := i) (by simpa using e)
    exact ⟨p, by simpa using a, b⟩
theorem any_take {α : Type} {l : List α} {i : Nat} {p : α} (f : α → Bool) (h : l[i]? = some p) : (l.take (i + 1)).any f = ((l.take i).any f || f p) := by
  rw [List.take_add_one, h]; simp
theorem any_whole {α : Type} {l : List α} {i : Nat} (f : α → Bool) (h : i = l.length) : (l.take i).any f = l.any f := by
  subst h; rw [List.take_length]
theorem lt_ch {a e : Nat} : ((ch e).cps.toList < (ch a).cps.toList) ↔ e < a := by
  show [e] < [a] ↔ e < a
  rw [List.cons_lt_cons_iff]
  constructor
  · rintro (h | ⟨_, h⟩)
    · exact h
    · exact absurd h (List.not_lt_nil _)
  · exact .inl
theorem not_pair {e : Nat} {p : Nat × Nat} (h : e < p.1 ∨ p.2 < e) : inPair e p = false := by
  unfold inPair
  rcases h with h | h
  · rw [decide_eq_false (by omega)]; rfl
  · rw [decide_eq_false (p := e ≤ p.2) (by omega)]; simp
theorem yes_pair {e : Nat} {p : Nat × Nat} (h : ¬ e < p.1) (h' : ¬ p.2 < e) : inPair e p = true := by
  unfold inPair
  rw [decide_eq_true (by omega), decide_eq_true (p := e ≤ p.2) (by omega)]; rfl

/-- do the parts fit the whole text -/
def matchD : List PartD → List Nat → Bool
  | [], [] => true
  | p :: ps, c :: cs => takesD p c && matchD ps cs
  | _, _ => false
theorem drop_get {α : Type} {l : List α} {i : Nat} {p : α} (h : l[i]? = some p) : l.drop i = p :: l.drop (i + 1) := by
  obtain ⟨hlt, e⟩ := List.getElem?_eq_some_iff.mp h
  rw [List.drop_eq_getElem_cons hlt, e]
theorem match_yes {P : Str} {ps : List PartD} {p : PartD} {i : Int} {b : Bool} (h0 : 0 ≤ i) (h1 : i < P.length) (hp : ps[i.toNat]? = some p) (ht : takesD p (at_ P i) = true) (h : matchD (ps.drop i.toNat) ((chars P).drop i.toNat) = b) :
    matchD (ps.drop (i + 1).toNat) ((chars P).drop (i + 1).toNat) = b := by
  rw [drop_at h0 h1, drop_get hp] at h
  unfold matchD at h
  rw [ht, Bool.true_and] at h
  rw [show (i + 1).toNat = i.toNat + 1 by omega] at h ⊢
  exact h
theorem match_no {P : Str} {ps : List PartD} {p : PartD} {i : Int} {b : Bool} (h0 : 0 ≤ i) (h1 : i < P.length) (hp : ps[i.toNat]? = some p) (ht : takesD p (at_ P i) = false) (h : matchD (ps.drop i.toNat) ((chars P).drop i.toNat) = b) : b = false := by
  rw [drop_at h0 h1, drop_get hp] at h
  unfold matchD at h
  rw [ht, Bool.false_and] at h
  exact h.symm
theorem match_over {P : Str} {ps : List PartD} {i : Int} {b : Bool} (h0 : 0 ≤ i) (h1 : i < P.length) (hp : ¬ i < ps.length) (h : matchD (ps.drop i.toNat) ((chars P).drop i.toNat) = b) : b = false := by
  rw [drop_at h0 h1, List.drop_eq_nil_of_le (as := ps) (by omega)] at h
  exact h.symm
theorem match_end {P : Str} {ps : List PartD} {i : Int} {b : Bool} (h1 : ¬ i < P.length) (hi : 0 ≤ i) (hp : i ≤ ps.length) (h : matchD (ps.drop i.toNat) ((chars P).drop i.toNat) = b) : b = decide (i = ps.length) := by
  rw [drop_end (by omega)] at h
  by_cases e : i = ps.length
  · rw [List.drop_eq_nil_of_le (as := ps) (by omega)] at h
    rw [decide_eq_true e]; exact h.symm
  · have hlt : i.toNat < ps.length := by omega
    rw [List.drop_eq_getElem_cons hlt] at h
    rw [decide_eq_false e]; exact h.symm
end Mine

end PartPu

section PartHd
open PySem PySem.W PyProof.Rows
namespace Mine
set_option maxRecDepth 100000 in
set_option maxHeartbeats 8000000 in
open_top hd for PySem.Challenge.rw_nt0092_01
end Mine

end PartHd

section PartSp
open PySem PySem.W PyProof.Rows
namespace Mine

/-- what a call of the def at f gives back, whoever calls it -/
def Spec (w : World) (mean : ExcName → Option Value) (mg mb : Str → Option Value) (f : Addr) (c : Nat) (vs : List Value) (news : List (Addr × Obj)) (Out : Value → List (Addr × Obj) → Prop) : Prop :=
  ∀ (dp un : Nat) (gd : Option (List Code)) (cn : Str) (cs : Scope) (a : Addr) (ccd : Value) (cl : List (Str × Addr)) (outer : List Env) (A₀ : Around) (base h₀ : Heap) (L : Addr) (m : Str → Option Value) (s : Shared) (Q E : Value → Shared → Prop),
    Below A₀ base outer h₀ → Fr h₀ L s.heap m → (hd.heap_39 w.params).In h₀ → News h₀ L s.heap news → Top hd.view_39 (looseW hd.view_39 []) mean mg mb h₀ → cs.kind = .function → dp + c < recursionLimit → un + 8 * c < cLine →
    (∀ (v : Value) (h' : Heap) (tk' : Nat) (news' : List (Addr × Obj)), Fr h₀ L h' m → News h₀ L h' news' → Out v news' → Q v { s with heap := h', toks := tk' }) →
    wpAny (model PySem.Challenge.rw_nt0092_01.row.prog w) (ktrTop dp un gd cn cs L a ccd cl outer) (call (.ref f) vs) Q E s

theorem Spec.use {w : World} {mean : ExcName → Option Value} {mg mb : Str → Option Value} {f : Addr} {c : Nat} {vs : List Value} {news : List (Addr × Obj)} {Out : Value → List (Addr × Obj) → Prop}
    {dp un : Nat} {gd : Option (List Code)} {cn : Str} {cs : Scope} {a : Addr} {ccd : Value} {cl : List (Str × Addr)} {outer : List Env} {A₀ : Around} {base h₀ : Heap} {L : Addr} {m : Str → Option Value} {s : Shared} {Q E : Value → Shared → Prop}
    (S : Spec w mean mg mb f c vs news Out)
    (B : Below A₀ base outer h₀) (F : Fr h₀ L s.heap m) (X : (hd.heap_39 w.params).In h₀) (N : News h₀ L s.heap news) (T : Top hd.view_39 (looseW hd.view_39 []) mean mg mb h₀) (hk : cs.kind = .function) (hdp : dp + c < recursionLimit) (hun : un + 8 * c < cLine)
    (ret : ∀ (v : Value) (h' : Heap) (tk' : Nat) (news' : List (Addr × Obj)), Fr h₀ L h' m → News h₀ L h' news' → Out v news' → Q v { s with heap := h', toks := tk' }) :
    wpAny (model PySem.Challenge.rw_nt0092_01.row.prog w) (ktrTop dp un gd cn cs L a ccd cl outer) (call (.ref f) vs) Q E s :=
  S _ _ _ _ _ _ _ _ _ _ _ _ _ _ _ _ _ B F X N T hk hdp hun ret

section
variable {M : Model} {A : Around} {E : Value → Shared → Prop} {Q : Flow → Shared → Prop} {s : Shared} {env : Env} {g : Heap} {L : Addr}

/-- a state between two statements, said by a datum c: the names, the ledger, the facts -/
def At {σ : Type} (g : Heap) (L : Addr) (s : Shared) (Ps : σ → List (Str × Value)) (Led : σ → List (Addr × Obj)) (I : σ → Prop) (s' : Shared) : Prop :=
  ∃ (c : σ) (h' : Heap) (tk : Nat) (m' : Str → Option Value) (news' : List (Addr × Obj)),
    s' = { s with heap := h', toks := tk } ∧ Fr g L h' m' ∧ News g L h' news' ∧ (∀ p ∈ Ps c, m' p.1 = some p.2) ∧ (∀ p ∈ Led c, p ∈ news') ∧ I c

theorem At.intro {σ : Type} {Ps : σ → List (Str × Value)} {Led : σ → List (Addr × Obj)} {I : σ → Prop} {h' : Heap} {tk : Nat} {m' : Str → Option Value} {news' : List (Addr × Obj)} (c : σ)
    (F : Fr g L h' m') (N : News g L h' news') (hp : ∀ p ∈ Ps c, m' p.1 = some p.2) (hl : ∀ p ∈ Led c, p ∈ news') (hi : I c) : At g L s Ps Led I { s with heap := h', toks := tk } :=
  ⟨c, h', tk, m', news', rfl, F, N, hp, hl, hi⟩

theorem kstB_self {u : Str → Option Value} {ps : List (Str × Value)} (hp : ∀ p ∈ ps, u p.1 = some p.2) : kstB u ps = u := by
  funext y
  exact kstB_eq hp fun _ => rfl

theorem At.elim {σ : Type} {Ps : σ → List (Str × Value)} {Led : σ → List (Addr × Obj)} {I : σ → Prop} {P : Shared → Prop} {s' : Shared} (h : At g L s Ps Led I s')
    (k : ∀ (c : σ) h' tk u, Fr g L h' (kstB u (Ps c)) → News g L h' (Led c) → I c → P { s with heap := h', toks := tk }) : P s' := by
  obtain ⟨c, h', tk, m', news', rfl, F, N, hp, hl, hi⟩ := h
  exact k c h' tk m' (by rw [kstB_self hp]; exact F) (fun p hp => N p (hl p hp)) hi

theorem rebase {g : Heap} {L : Addr} {h : Heap} {m : Str → Option Value} {P : Prop} (ps : List (Str × Value)) (F : Fr g L h m) (hp : ∀ p ∈ ps, m p.1 = some p.2) (k : ∀ u, Fr g L h (kstB u ps) → P) : P :=
  k m (by rw [kstB_self hp]; exact F)

theorem news_swap {g : Heap} {L : Addr} {h : Heap} {a b : Addr × Obj} {r : List (Addr × Obj)} (N : News g L h (a :: b :: r)) : News g L h (b :: a :: r) := fun p hp => by
  rcases List.mem_cons.mp hp with rfl | hp
  · exact N _ (.tail _ (.head _))
  rcases List.mem_cons.mp hp with rfl | hp
  · exact N _ (.head _)
  · exact N _ (.tail _ (.tail _ hp))

theorem off_ne {led : List (Addr × Obj)} {r : Addr} (h : ∀ p ∈ led, p.1 ≠ r) : OwnOff led [r] := fun p hp b hb => by
  rw [List.mem_singleton.mp hb]; exact h p hp
theorem off_lt {led : List (Addr × Obj)} {r : Addr} (h : ∀ p ∈ led, p.1 < r) : OwnOff led [r] := off_ne fun p hp => Nat.ne_of_lt (h p hp)
theorem off_cons {led : List (Addr × Obj)} {a r : Addr} {o : Obj} (h : a ≠ r) (k : OwnOff led [r]) : OwnOff ((a, o) :: led) [r] := off_ne fun p hp => by
  rcases List.mem_cons.mp hp with rfl | hp
  · exact h
  · exact k p hp r (.head _)

theorem news_rot {g : Heap} {L : Addr} {h : Heap} {a b c : Addr × Obj} {r : List (Addr × Obj)} (N : News g L h (a :: b :: c :: r)) : News g L h (c :: a :: b :: r) := fun p hp => by
  rcases List.mem_cons.mp hp with rfl | hp
  · exact N _ (.tail _ (.tail _ (.head _)))
  rcases List.mem_cons.mp hp with rfl | hp
  · exact N _ (.head _)
  rcases List.mem_cons.mp hp with rfl | hp
  · exact N _ (.tail _ (.head _))
  · exact N _ (.tail _ (.tail _ (.tail _ hp)))

theorem news_drop2 {g : Heap} {L : Addr} {h : Heap} {a b : Addr × Obj} {r : List (Addr × Obj)} (N : News g L h (a :: b :: r)) : News g L h (a :: r) := fun p hp => by
  rcases List.mem_cons.mp hp with rfl | hp
  · exact N _ (.head _)
  · exact N _ (.tail _ (.tail _ hp))

def CutQ (I : Shared → Prop) (R : Value → Shared → Prop) (f : Flow) (s : Shared) : Prop :=
  match f with
  | .next => I s
  | .ret v => R v s
  | _ => False

theorem execs_append (xs ys : List Stmt) (env : Env) : execs (xs ++ ys) env = (execs xs env >>= fun f => match f with | .next => execs ys env | f => pure f) := by
  induction xs with
  | nil => rw [List.nil_append, execs_nil, pure_bind]
  | cons x xs ih =>
    rw [List.cons_append, execs_cons, execs_cons, bind_assoc]
    congr 1
    funext f
    cases f with
    | next => exact ih
    | brk => rw [pure_bind]
    | cont => rw [pure_bind]
    | ret v => rw [pure_bind]

theorem execs_split {xs ys : List Stmt} {I : Shared → Prop} (h : wpAny M A (execs xs env) (CutQ I fun v => Q (.ret v)) E s)
    (k : ∀ s', I s' → wpAny M A (execs ys env) Q E s') : wpAny M A (execs (xs ++ ys) env) Q E s := by
  rw [execs_append]
  refine wpAny_bind (wpAny_mono h (fun f s' hf => ?_) fun _ _ e => e)
  cases f with
  | next => exact k s' hf
  | brk => exact hf.elim
  | cont => exact hf.elim
  | ret v => exact wpAny_pure hf

/-- cut a body behind its first n statements -/
theorem cutAt {σ : Type} (n : Nat) (g : Heap) (L : Addr) (Ps : σ → List (Str × Value)) (Led : σ → List (Addr × Obj)) (I : σ → Prop) {l : List Stmt}
    (h : wpAny M A (execs (l.take n) env) (CutQ (At g L s Ps Led I) fun v => Q (.ret v)) E s)
    (k : ∀ (c : σ) h' tk u, Fr g L h' (kstB u (Ps c)) → News g L h' (Led c) → I c → wpAny M A (execs (l.drop n) env) Q E { s with heap := h', toks := tk }) :
    wpAny M A (execs l env) Q E s := by
  have := execs_split h fun s' hs => At.elim (P := fun s' => wpAny M A (execs (l.drop n) env) Q E s') hs k
  rwa [List.take_append_drop] at this

def LoopQ (I : Shared → Prop) (Q : Flow → Shared → Prop) (f : Flow) (s : Shared) : Prop :=
  match f with
  | .ret v => Q (.ret v) s
  | .brk => Q .next s
  | _ => I s
end

theorem loopQ_ret {I : Shared → Prop} {Q : Flow → Shared → Prop} {v : Value} {s : Shared} (h : Q (.ret v) s) : LoopQ I Q (.ret v) s := h
theorem cutQ_ret {I : Shared → Prop} {R : Value → Shared → Prop} {v : Value} {s : Shared} (h : R v s) : CutQ I R (.ret v) s := h

section
variable {prog : Program} {w : World} {A : Around} {E : Value → Shared → Prop} {Q : Flow → Shared → Prop} {s : Shared} {env : Env} {g : Heap} {L : Addr}

theorem while_at {σ : Type} {test : Expr} {body : List Stmt} {pos : Pos} {m : Str → Option Value} {news : List (Addr × Obj)} (Ps : σ → List (Str × Value)) (Led : σ → List (Addr × Obj)) (I : σ → Prop) (μ : σ → Nat) (c₀ : σ)
    (F : Fr g L s.heap m) (N : News g L s.heap news) (hp : ∀ p ∈ Ps c₀, m p.1 = some p.2) (hl : ∀ p ∈ Led c₀, p ∈ news) (hi : I c₀)
    (turn : ∀ (c : σ) h' tk u, Fr g L h' (kstB u (Ps c)) → News g L h' (Led c) → I c →
      wpAny (model prog w) A (isTrue test env (eval test env)) (fun b s₂ =>
        if b = true then wpAny (model prog w) A (execs body env) (LoopQ (At g L s Ps Led fun c' => I c' ∧ μ c' < μ c) Q) E s₂ else Q .next s₂) E { s with heap := h', toks := tk })
    (hE : PassesOwn (model prog w) A env E) :
    wpAny (model prog w) A (exec (.While test body [] pos) env) Q E s := by
  refine While_inv2 (fun n m nx => ∃ c : σ, μ c = n ∧ (∀ p ∈ Ps c, m p.1 = some p.2) ∧ (∀ p ∈ Led c, p ∈ nx) ∧ I c) F N ⟨c₀, rfl, hp, hl, hi⟩ ?_ hE
  rintro n m₁ nx h tk F₁ N₁ ⟨c, rfl, h1, h2, h3⟩
  refine wpAny_mono (turn c h tk m₁ (by rw [kstB_self h1]; exact F₁) (fun p hp => N₁ p (h2 p hp)) h3) (fun b s₂ p => ?_) fun _ _ x => x
  cases b with
  | false => simpa using p
  | true =>
    simp only [if_true] at p ⊢
    refine wpAny_mono p (fun f s₃ q => ?_) fun _ _ x => x
    have fin : At g L s Ps Led (fun c' => I c' ∧ μ c' < μ c) s₃ → WhileStep2 g L s (fun n m nx => ∃ c : σ, μ c = n ∧ (∀ p ∈ Ps c, m p.1 = some p.2) ∧ (∀ p ∈ Led c, p ∈ nx) ∧ I c) Q (μ c) .next s₃ := by
      rintro ⟨c', h', tk', m', news', rfl, F', N', a, b, d, e⟩
      exact ⟨h', tk', m', news', μ c', rfl, F', N', e, c', rfl, a, b, d⟩
    cases f with
    | ret v => exact q
    | brk => exact q
    | next => exact fin q
    | cont => exact fin q
end
end Mine

end PartSp

section PartPT
open PySem PySem.W PyProof.Rows
namespace Mine
set_option maxRecDepth 100000
set_option maxHeartbeats 4000000
local macro_rules | `(tactic| walk_at "GO") => `(tactic| repeat' (first | (k_unfold; (try dsimp only)) | (walk1; (try dsimp only)) | (leave1; walk_say "STEP leave1"; try dsimp only) | fail "no step"))
local macro_rules | `(tactic| walk_at "ENTER") => `(tactic| (refine' code_def ?k1 ?k2 ?k3 ?k4 ?k5 ?kA ?kF ?kK ?k6 ?k7 ?k8 ?k9 ?kB ?_ ?c2 ?c3 ?c4 ?c5; (case kA => exact rfl); (case kF => exact rfl); (case kK => first | exact rfl | assumption); (case k1 => k_asm); (case k2 => k_asm); (case k3 => k_asm); (case k4 => k_asm); (case k5 => k_asm); (case k6 => k_is); (case k7 => k_is); (case k8 => ktr_room); (case k9 => first | exact BindsTo.of_eq rfl | exact binds_K (by k_in) rfl (by k_is) rfl rfl rfl); (case c5 => decide); (case kB => exact locs rfl); (case c2 => exact rfl); (case c3 => exact rfl); (case c4 => exact rfl); k_whole; intro g' L' h' FG' F' N' B' X' T'; (try dsimp only); (try k_lift B'); (try k_fold)))

/-- a Part's own dict -/
abbrev partDict (w : World) (t1 t2 t3 t4 : Tok) (v1 v2 v3 v4 : Value) : Obj := dictOf [⟨PyData.keyHash w.params "kind", .str "kind" t1, v1⟩, ⟨PyData.keyHash w.params "sign", .str "sign" t2, v2⟩, ⟨PyData.keyHash w.params "ranges", .str "ranges" t3, v3⟩, ⟨PyData.keyHash w.params "negated", .str "negated" t4, v4⟩] 4
def PartOut (w : World) (v1 v2 v3 v4 : Value) (news : List (Addr × Obj)) (v : Value) (news' : List (Addr × Obj)) : Prop :=
  ∃ x dx t1 t2 t3 t4, v = .ref x ∧ news' = (x, instObj 39 dx) :: (dx, partDict w t1 t2 t3 t4 v1 v2 v3 v4) :: news ∧ (∀ p ∈ news, p.1 < dx) ∧ dx < x

theorem part4 (w : World) (mean : ExcName → Option Value) (mg mb : Str → Option Value) (v1 v2 v3 v4 : Value) (news : List (Addr × Obj)) :
    Spec w mean mg mb 39 3 [v1, v2, v3, v4] news (PartOut w v1 v2 v3 v4 news) := by
  unfold Spec
  w_top off
  k_fill
  intro dp un gd cn cs a ccd cl outer A₀ base h₀ L m s Q E B F X N T hk hd hu hret
  k_dflt (refine' call_cls ?k1 ?k2 ?k3 ?k4 ?k5 ?k6 ?_; (case k1 => k_asm); (case k2 => k_asm); (case k3 => k_asm); (case k4 => k_is); (case k5 => k_is); (case k6 => k_is))
  intro x' d' h' F' N' l1 l2
  have mk := kstMark
  replace l2 := ltN l2
  k_dflt (walk_at "ENTER")
  walk_at "GO"
  exact hret _ _ _ _ (by assumption) (by assumption) ⟨_, _, _, _, _, _, rfl, rfl, l1, l2⟩

theorem part2 (w : World) (mean : ExcName → Option Value) (mg mb : Str → Option Value) (v1 v2 : Value) (news : List (Addr × Obj)) :
    Spec w mean mg mb 39 3 [v1, v2] news (PartOut w v1 v2 .none (.bool false) news) := by
  unfold Spec
  w_top off
  k_fill
  intro dp un gd cn cs a ccd cl outer A₀ base h₀ L m s Q E B F X N T hk hd hu hret
  k_dflt (refine' call_cls ?k1 ?k2 ?k3 ?k4 ?k5 ?k6 ?_; (case k1 => k_asm); (case k2 => k_asm); (case k3 => k_asm); (case k4 => k_is); (case k5 => k_is); (case k6 => k_is))
  intro x' d' h' F' N' l1 l2
  have mk := kstMark
  replace l2 := ltN l2
  k_dflt (walk_at "ENTER")
  walk_at "GO"
  exact hret _ _ _ _ (by assumption) (by assumption) ⟨_, _, _, _, _, _, rfl, rfl, l1, l2⟩
end Mine

end PartPT

section PartLA
open PySem PySem.W PyProof.Rows
namespace Mine
set_option maxRecDepth 100000
set_option maxHeartbeats 4000000

local macro_rules | `(tactic| walk_at "GO") => `(tactic| repeat' (first | (k_unfold; (try dsimp only)) | (walk1; (try dsimp only)) | (leave1; walk_say "STEP leave1"; try dsimp only) | fail "no step"))
local macro_rules | `(tactic| walk_at "LoopQ") => `(tactic| refine loopQ_ret ?_)
local macro_rules | `(tactic| walk_at "CutQ") => `(tactic| refine cutQ_ret ?_)
local macro_rules | `(tactic| k_mem) => `(tactic| ((show (_ : Addr × Obj) ∈ (_ : List (Addr × Obj))); assumption))
local macro_rules | `(tactic| walk_at "USE") => `(tactic| ((case k1 => k_asm); (case k2 => k_asm); (case k3 => k_asm); (case k4 => k_asm); (case k5 => k_asm); (case kK => first | exact rfl | assumption); (case kd => ktr_room); (case ku => ktr_units)))
local macro_rules | `(tactic| walk_at "call ref") => `(tactic| (k_here; (with_reducible show wpAny _ _ (call (Value.ref 39) [_, _, _, _]) _ _ _); k_dflt (refine' Spec.use (part4 _ _ _ _ _ _ _ _ _) ?k1 ?k2 ?k3 ?k4 ?k5 ?kK ?kd ?ku ?_; (walk_at "USE")); intro v' h' tk' news' F' N' hO'; (obtain ⟨x', dx', t1', t2', t3', t4', e1', e2', l1, l2⟩ := hO'); subst e1'; subst e2'; (try k_sweep); (try dsimp only)))

/-- a lot's Part on the ledger -/
def LotPart (w : World) (led : List (Addr × Obj)) (v : Value) (neg : Bool) (prs : List (Nat × Nat)) : Prop :=
  ∃ x dx r n refs t1 t2 t3 t4 tt, v = .ref x ∧ (x, instObj 39 dx) ∈ led ∧ (dx, partDict w t1 t2 t3 t4 (.int 3 tt) .none (.ref r) (.bool neg)) ∈ led ∧ (r, listOf refs n) ∈ led ∧ PairsIn led refs.toList prs
def LotOut (w : World) (P : Str) (i : Int) (news : List (Addr × Obj)) (v : Value) (news' : List (Addr × Obj)) : Prop :=
  match lotAt P i with
  | none => v = .none ∧ news' = news
  | some (neg, prs, rest) => ∃ tl t x k tk, v = .ref t ∧ news' = tl ++ news ∧ FreshTl news tl ∧ (t, tupOf #[x, .int k tk]) ∈ tl ∧ LotPart w tl x neg prs ∧ i < k ∧ k ≤ P.length ∧ (chars P).drop k.toNat = rest

structure LotS where
  neg : Bool
  i : Int
  ti : Tok
  r : Addr
  n : Nat
  refs : Array Value
  tl : List (Addr × Obj)
  prs : List (Nat × Nat)

theorem lot_at_spec (w : World) (mean : ExcName → Option Value) (mg mb : Str → Option Value) (P : Str) (tP : Tok) (i : Int) (ti : Tok) (hP : P.length ≤ 1000) (h0 : 0 ≤ i) (hi : i ≤ P.length) (news : List (Addr × Obj)) :
    Spec w mean mg mb 57 6 [.str P tP, .int i ti] news (LotOut w P i news) := by
  unfold Spec
  w_top off
  k_fill
  intro dp un gd cn cs a ccd cl outer A₀ base h₀ L m s Q E B F X N T hk hd hu hret
  refine wpAny_call ?_
  k_dflt cell_enter
  have mk := kstMark
  rename_i g' L' h' FG' F' N' B' X' T'
  refine rebase [("pattern", .str P tP), ("at", .int i ti)] F' (by kst_all) ?_
  clear F'
  intro u F'
  dsimp only [kstB] at F'
  refine cutAt (σ := Bool × Int × Tok) 2 g' L' (fun c => [("pattern", .str P tP), ("negated", .bool c.1), ("at", .int c.2.1 c.2.2)]) (fun _ => news) (fun c => i ≤ c.2.1 ∧ c.2.1 ≤ P.length ∧ lotB c.1 ((chars P).drop c.2.1.toNat) = lotAt P i) ?_ ?_
  · simp only [List.take_succ_cons, List.take_zero]
    walk_at "GO"
    all_goals ((show At _ _ _ _ _ _ _); refine At.intro ⟨_, _, _⟩ (by assumption) (by assumption) (by kst_all) (by intro _ h; exact h) ?_; dsimp only)
    · exact ⟨by omega, by omega, (lotAt_neg h0 (by assumption) (item_yes (e := Str.ofString "^") h0 (by assumption) (by assumption) ofS_hat)).symm⟩
    · exact ⟨by omega, by omega, (lotAt_pos h0 fun h => item_no (e := Str.ofString "^") h0 (by assumption) (by assumption) ofS_hat).symm⟩
    · exact ⟨by omega, by omega, (lotAt_pos h0 fun h => absurd h (by assumption)).symm⟩
  · simp only [List.drop_succ_cons, List.drop_zero]
    clear F' N'
    intro c h₁ tk₁ u₁ F' N' hI
    obtain ⟨neg, j, tj⟩ := c
    dsimp only [kstB] at F' hI
    obtain ⟨hjle, hj1, hj2⟩ := hI
    have hj0 : 0 ≤ j := by omega
    refine cutAt (σ := LotS) 2 g' L' (fun c => [("pattern", .str P tP), ("negated", .bool neg), ("at", .int c.i c.ti), ("ranges", .ref c.r)]) (fun c => (c.r, listOf c.refs c.n) :: (c.tl ++ news)) (fun c => i ≤ c.i ∧ c.i ≤ P.length ∧ OwnOff (c.tl ++ news) [c.r] ∧ FreshTl news c.tl ∧ (∀ p ∈ news, p.1 < c.r) ∧ PairsIn c.tl c.refs.toList c.prs ∧ (c.refs.size : Int) ≤ c.i ∧ fin neg (goAt P c.i c.prs) = lotAt P i) ?_ ?_
    · simp only [List.take_succ_cons, List.take_zero]
      walk_at "GO"
      · show At _ _ _ _ _ _ _
        refine At.intro ⟨neg, _, _, _, _, _, [_], [(93, 93)]⟩ (by assumption) (news_swap (by assumption)) (by kst_all) (fun _ h => h) ?_
        dsimp only
        refine ⟨by omega, by omega, ?_, FreshTl.nil.cons ?_, by assumption, ⟨⟨_, _, _, rfl, .head _⟩, trivial⟩, by simp; omega, ?_⟩
        · exact off_cons (Nat.ne_of_gt (And.left (by assumption))) (off_lt (by assumption))
        · exact kst_ltOf (And.right (by assumption))
        · rw [← hj2]
          exact (lotB_first hj0 (by assumption) (item_yes (e := Str.ofString "]") hj0 (by assumption) (by assumption) ofS_end)).symm
      · show At _ _ _ _ _ _ _
        refine At.intro ⟨neg, _, _, _, _, _, [], []⟩ (by assumption) (by assumption) (by kst_all) (fun _ h => h) ?_
        refine ⟨hjle, hj1, ?_, .nil, by assumption, trivial, by simpa using hj0, ?_⟩
        · exact off_lt (by assumption)
        · rw [← hj2]
          exact (lotB_plain hj0 fun _ => item_no (e := Str.ofString "]") hj0 (by assumption) (by assumption) ofS_end).symm
      · show At _ _ _ _ _ _ _
        refine At.intro ⟨neg, _, _, _, _, _, [], []⟩ (by assumption) (by assumption) (by kst_all) (fun _ h => h) ?_
        refine ⟨hjle, hj1, ?_, .nil, by assumption, trivial, by simpa using hj0, ?_⟩
        · exact off_lt (by assumption)
        · rw [← hj2]
          exact (lotB_plain hj0 fun h => absurd h (by assumption)).symm
    simp only [List.drop_succ_cons, List.drop_zero]
    clear F' N'
    intro c h₂ tk₂ u₂ F' N' hI
    obtain ⟨c1, i1, t1, r, n, refs, tl, prs⟩ := c
    dsimp only [kstB] at F' N' hI
    obtain ⟨hile, hi1, hoff, hfr, hlt, hps, hsz, hgo⟩ := hI
    have hi0 : 0 ≤ i1 := by omega
    refine wpAny_execs_cons ?_
    refine while_at (σ := LotS) (g := g') (L := L') (fun c => [("pattern", .str P tP), ("negated", .bool neg), ("at", .int c.i c.ti), ("ranges", .ref r)]) (fun c => (r, listOf c.refs c.n) :: (c.tl ++ news)) (fun c => i ≤ c.i ∧ c.i ≤ P.length ∧ OwnOff (c.tl ++ news) [r] ∧ FreshTl news c.tl ∧ PairsIn c.tl c.refs.toList c.prs ∧ (c.refs.size : Int) ≤ c.i ∧ fin neg (goAt P c.i c.prs) = lotAt P i) (fun c => P.length - c.i.toNat) ⟨neg, i1, t1, r, n, refs, tl, prs⟩ F' N' (by kst_all) (fun _ h => h) ⟨hile, hi1, hoff, hfr, hps, hsz, hgo⟩ ?_ (by passes_own)
    clear F' N' hi0 hile hi1 hoff hfr hps hsz hgo
    intro c h₃ tk₃ u₃ F' N' hI
    obtain ⟨c2, i2, t2, r2, n2, refs, tl, prs⟩ := c
    dsimp only [kstB] at F' N' hI
    obtain ⟨hile, hi1, hoff, hfr, hps, hsz, hgo⟩ := hI
    k_fold
    have hi0 : 0 ≤ i2 := by omega
    walk_at "GO"
    · rename r < _ ∧ AllLt _ (tl ++ news) => hD
      have hl : i2 < P.length := by assumption
      have hl2 : i2 + 2 < P.length := by assumption
      have n1 := item_ne_t (e := Str.ofString "]") hi0 hl (by assumption) ofS_end
      have n2 := item_yes (e := Str.ofString "-") (P := P) (i := i2 + 1) (by omega) (by omega) (by assumption) ofS_dash
      have n3 := item_ne_t (e := Str.ofString "]") (P := P) (i := i2 + 2) (by omega) hl2 (by assumption) ofS_end
      show At _ _ _ _ _ _ _
      refine At.intro ⟨neg, _, _, r, _, refs.push _, _ :: tl, prs ++ [(at_ P i2, at_ P (i2 + 2))]⟩ (by assumption) (news_swap (by assumption)) (by kst_all) (fun _ h => h) ?_
      dsimp only
      refine ⟨⟨by omega, by omega, off_cons (Nat.ne_of_gt hD.1) hoff, hfr.cons (fun p hp => kst_ltOf hD.2 p (List.mem_append_right _ hp)), (hps.mono fun _ h => .tail _ h).push (pair_items (.head _) hi0 hl (by omega) hl2), by simp; omega, ?_⟩, by omega⟩
      rw [← hgo, goAt_range _ hi0 hl2 n1 n2 n3]
    · rename r < _ ∧ AllLt _ (tl ++ news) => hD
      have hl : i2 < P.length := by assumption
      have hl2 : i2 + 2 < P.length := by assumption
      have n1 := item_ne_t (e := Str.ofString "]") hi0 hl (by assumption) ofS_end
      have n3 := item_ne_f (e := Str.ofString "]") (P := P) (i := i2 + 2) (by omega) hl2 (by assumption) ofS_end
      show At _ _ _ _ _ _ _
      refine At.intro ⟨neg, _, _, r, _, refs.push _, _ :: tl, prs ++ [(at_ P i2, at_ P i2)]⟩ (by assumption) (news_swap (by assumption)) (by kst_all) (fun _ h => h) ?_
      dsimp only
      refine ⟨⟨by omega, by omega, off_cons (Nat.ne_of_gt hD.1) hoff, hfr.cons (fun p hp => kst_ltOf hD.2 p (List.mem_append_right _ hp)), (hps.mono fun _ h => .tail _ h).push (pair_items (.head _) hi0 hl hi0 hl), by simp; omega, ?_⟩, by omega⟩
      rw [← hgo, goAt_one _ hi0 hl n1 fun h => h.2.2 n3]
    · rename r < _ ∧ AllLt _ (tl ++ news) => hD
      have hl : i2 < P.length := by assumption
      have hl2 : i2 + 2 < P.length := by assumption
      have n1 := item_ne_t (e := Str.ofString "]") hi0 hl (by assumption) ofS_end
      have n2 := item_no (e := Str.ofString "-") (P := P) (i := i2 + 1) (by omega) (by omega) (by assumption) ofS_dash
      show At _ _ _ _ _ _ _
      refine At.intro ⟨neg, _, _, r, _, refs.push _, _ :: tl, prs ++ [(at_ P i2, at_ P i2)]⟩ (by assumption) (news_swap (by assumption)) (by kst_all) (fun _ h => h) ?_
      dsimp only
      refine ⟨⟨by omega, by omega, off_cons (Nat.ne_of_gt hD.1) hoff, hfr.cons (fun p hp => kst_ltOf hD.2 p (List.mem_append_right _ hp)), (hps.mono fun _ h => .tail _ h).push (pair_items (.head _) hi0 hl hi0 hl), by simp; omega, ?_⟩, by omega⟩
      rw [← hgo, goAt_one _ hi0 hl n1 fun h => n2 h.2.1]
    · rename r < _ ∧ AllLt _ (tl ++ news) => hD
      have hl : i2 < P.length := by assumption
      have hl2 : ¬ i2 + 2 < P.length := by assumption
      have n1 := item_ne_t (e := Str.ofString "]") hi0 hl (by assumption) ofS_end
      show At _ _ _ _ _ _ _
      refine At.intro ⟨neg, _, _, r, _, refs.push _, _ :: tl, prs ++ [(at_ P i2, at_ P i2)]⟩ (by assumption) (news_swap (by assumption)) (by kst_all) (fun _ h => h) ?_
      dsimp only
      refine ⟨⟨by omega, by omega, off_cons (Nat.ne_of_gt hD.1) hoff, hfr.cons (fun p hp => kst_ltOf hD.2 p (List.mem_append_right _ hp)), (hps.mono fun _ h => .tail _ h).push (pair_items (.head _) hi0 hl hi0 hl), by simp; omega, ?_⟩, by omega⟩
      rw [← hgo, goAt_one _ hi0 hl n1 fun h => hl2 h.1]
    · have hl : i2 < P.length := by assumption
      have n1 := item_ne_f (e := Str.ofString "]") hi0 hl (by assumption) ofS_end
      rename_i x dx u1 u2 u3 u4 l1 l2 D _ _ _ l3 kF kN _ _
      refine hret _ _ _ ((_ :: _ :: _ :: _ :: tl) ++ news) kF kN ?_
      unfold LotOut
      rw [lotgo_some hi0 hl n1 hgo]
      have hN : ∀ p ∈ news, p.1 < D := fun p hp => kst_ltOf l3.2.2.2 p (List.mem_append_right _ hp)
      have hdx : ∀ p ∈ news, p.1 < dx := fun p hp => l1 p (.tail _ (List.mem_append_right _ hp))
      exact ⟨_ :: _ :: _ :: _ :: tl, D, .ref x, _, _, rfl, rfl, ((((hfr.cons hlt).cons hdx).cons fun p hp => Nat.lt_trans (hdx p hp) l2).cons hN), .head _, ⟨x, dx, r, n2, refs, u1, u2, u3, u4, _, rfl, .tail _ (.head _), .tail _ (.tail _ (.head _)), .tail _ (.tail _ (.tail _ (.head _))), hps.mono fun _ h => .tail _ (.tail _ (.tail _ (.tail _ h)))⟩, by omega, by omega, rfl⟩
    · refine hret _ _ _ news (by assumption) (fun p hp => (‹News h₀ L _ _› : News h₀ L _ _) p (.tail _ (List.mem_append_right _ hp))) ?_
      unfold LotOut
      rw [lotgo_none (by assumption) hgo]
      exact ⟨rfl, rfl⟩
end Mine

end PartLA

section PartGP
open PySem PySem.W PyProof.Rows
namespace Mine
set_option maxRecDepth 100000
set_option maxHeartbeats 4000000
local macro_rules | `(tactic| walk_at "GO") => `(tactic| repeat' (first | (k_unfold; (try dsimp only)) | (walk1; (try dsimp only)) | (leave1; walk_say "STEP leave1"; try dsimp only) | fail "no step"))
-- one local line more than in the text ahead: the walk keeps its lines by their number
local macro_rules | `(tactic| walk_at "NONE") => `(tactic| fail "none")
local macro_rules | `(tactic| walk_at "LoopQ") => `(tactic| refine loopQ_ret ?_)
local macro_rules | `(tactic| walk_at "CutQ") => `(tactic| refine cutQ_ret ?_)
local macro_rules | `(tactic| k_mem) => `(tactic| ((show (_ : Addr × Obj) ∈ (_ : List (Addr × Obj))); assumption))
local macro_rules | `(tactic| walk_at "USE") => `(tactic| ((case k1 => k_asm); (case k2 => k_asm); (case k3 => k_asm); (case k4 => k_asm); (case k5 => k_asm); (case kK => first | exact rfl | assumption); (case kd => ktr_room); (case ku => ktr_units)))
local macro_rules | `(tactic| walk_at "call ref") => `(tactic| (k_here; (with_reducible show wpAny _ _ (call (Value.ref 39) [_, _]) _ _ _); k_dflt (refine' Spec.use (part2 _ _ _ _ _ _ _) ?k1 ?k2 ?k3 ?k4 ?k5 ?kK ?kd ?ku ?_; (walk_at "USE")); intro v' h' tk' news' F' N' hO'; (obtain ⟨x', dx', t1', t2', t3', t4', e1', e2', l1, l2⟩ := hO'); subst e1'; subst e2'; (have l0 := l1); (k_lt l1); (replace l2 := ltN l2); (try k_sweep); (try dsimp only)))

/-- a Part on the ledger -/
def PartIn (w : World) (led : List (Addr × Obj)) (v : Value) : PartD → Prop
  | .sign c => ∃ x dx t1 t2 t3 t4 tt ts, v = .ref x ∧ (x, instObj 39 dx) ∈ led ∧ (dx, partDict w t1 t2 t3 t4 (.int 2 tt) (.str (ch c) ts) .none (.bool false)) ∈ led
  | .lot neg prs => LotPart w led v neg prs
theorem LotPart.mono {w : World} {led led' : List (Addr × Obj)} {v : Value} {neg : Bool} {prs : List (Nat × Nat)} (h : LotPart w led v neg prs) (s : ∀ p ∈ led, p ∈ led') : LotPart w led' v neg prs := by
  obtain ⟨x, dx, r, n, refs, t1, t2, t3, t4, tt, e, h1, h2, h3, h4⟩ := h
  exact ⟨x, dx, r, n, refs, t1, t2, t3, t4, tt, e, s _ h1, s _ h2, s _ h3, h4.mono s⟩
theorem PartIn.mono {w : World} {led led' : List (Addr × Obj)} {v : Value} {d : PartD} (h : PartIn w led v d) (s : ∀ p ∈ led, p ∈ led') : PartIn w led' v d := by
  cases d with
  | sign c =>
    obtain ⟨x, dx, t1, t2, t3, t4, tt, ts, e, h1, h2⟩ := h
    exact ⟨x, dx, t1, t2, t3, t4, tt, ts, e, s _ h1, s _ h2⟩
  | lot neg prs => exact LotPart.mono h s
theorem sign_item {w : World} {led : List (Addr × Obj)} {P : Str} {i : Int} {x dx : Addr} {t1 t2 t3 t4 tt ts : Tok} (h0 : 0 ≤ i) (h1 : i < P.length) (hx : (x, instObj 39 dx) ∈ led) (hd : (dx, partDict w t1 t2 t3 t4 (.int 2 tt) (.str (Txt.item P i) ts) .none (.bool false)) ∈ led) : PartIn w led (.ref x) (.sign (at_ P i)) := by
  rw [item_at h0 h1] at hd
  exact ⟨x, dx, t1, t2, t3, t4, tt, ts, rfl, hx, hd⟩
def PartsIn (w : World) (led : List (Addr × Obj)) : List Value → List PartD → Prop
  | [], [] => True
  | v :: vs, p :: ps => PartIn w led v p ∧ PartsIn w led vs ps
  | _, _ => False
theorem PartsIn.mono {w : World} {led led' : List (Addr × Obj)} (s : ∀ q ∈ led, q ∈ led') : ∀ {vs : List Value} {ps : List PartD}, PartsIn w led vs ps → PartsIn w led' vs ps
  | [], [], _ => trivial
  | [], _ :: _, h => h.elim
  | _ :: _, [], h => h.elim
  | _ :: _, _ :: _, h => ⟨h.1.mono s, h.2.mono s⟩
theorem PartsIn.snoc {w : World} {led : List (Addr × Obj)} {v : Value} {p : PartD} (hv : PartIn w led v p) : ∀ {vs : List Value} {ps : List PartD}, PartsIn w led vs ps → PartsIn w led (vs ++ [v]) (ps ++ [p])
  | [], [], _ => ⟨hv, trivial⟩
  | [], _ :: _, h => h.elim
  | _ :: _, [], h => h.elim
  | _ :: _, _ :: _, h => ⟨h.1, h.2.snoc hv⟩
theorem PartsIn.push {w : World} {led : List (Addr × Obj)} {v : Value} {p : PartD} {vs : Array Value} {ps : List PartD} (h : PartsIn w led vs.toList ps) (hv : PartIn w led v p) : PartsIn w led (vs.push v).toList (ps ++ [p]) := by
  rw [Array.toList_push]; exact h.snoc hv
theorem PartsIn.length {w : World} {led : List (Addr × Obj)} : ∀ {vs : List Value} {ps : List PartD}, PartsIn w led vs ps → vs.length = ps.length
  | [], [], _ => rfl
  | [], _ :: _, h => h.elim
  | _ :: _, [], h => h.elim
  | _ :: _, _ :: _, h => congrArg (· + 1) h.2.length

theorem PartsIn.get {w : World} {led : List (Addr × Obj)} : ∀ {vs : List Value} {ps : List PartD} {i : Nat}, PartsIn w led vs ps → i < ps.length → ∃ v p, vs.toArray[i]? = some v ∧ ps[i]? = some p ∧ PartIn w led v p
  | [], [], _, _, h => by simp at h
  | [], _ :: _, _, h, _ => h.elim
  | _ :: _, [], _, h, _ => h.elim
  | v :: _, p :: _, 0, h, _ => ⟨v, p, by simp, rfl, h.1⟩
  | _ :: _, _ :: _, i + 1, h, e => by
    obtain ⟨v, p, a, b, c⟩ := h.2.get (i := i) (by simpa using e)
    exact ⟨v, p, by simpa using a, by simpa using b, c⟩

def PartsOut (w : World) (P : Str) (news : List (Addr × Obj)) (v : Value) (news' : List (Addr × Obj)) : Prop :=
  ∃ o, PartsR (chars P) o ∧ match o with
  | none => v = .none ∧ news' = news
  | some ps => ∃ tl r n refs, v = .ref r ∧ news' = (r, listOf refs n) :: (tl ++ news) ∧ FreshTl news tl ∧ (∀ p ∈ news, p.1 < r) ∧ OwnOff (tl ++ news) [r] ∧ PartsIn w tl refs.toList ps ∧ refs.size ≤ 1000

structure GpS where
  i : Int
  ti : Tok
  n : Nat
  refs : Array Value
  tl : List (Addr × Obj)
  ps : List PartD

theorem glob_parts_spec (w : World) (mean : ExcName → Option Value) (mg mb : Str → Option Value) (P : Str) (tP : Tok) (hP : P.length ≤ 1000) (hs : ∀ c ∈ chars P, c ≠ 42 ∧ c ≠ 63) (news : List (Addr × Obj)) :
    Spec w mean mg mb 64 10 [.str P tP] news (PartsOut w P news) := by
  unfold Spec
  w_top off
  k_fill
  intro dp un gd cn cs a ccd cl outer A₀ base h₀ L m s Q E B F X N T hk hd hu hret
  refine wpAny_call ?_
  k_dflt cell_enter
  have mk := kstMark
  rename_i g' L' h' FG' F' N' B' X' T'
  refine rebase [("pattern", .str P tP)] F' (by kst_all) ?_
  clear F'
  intro u F'
  dsimp only [kstB] at F'
  refine cutAt (σ := Addr × Tok) 2 g' L' (fun c => [("pattern", .str P tP), ("parts", .ref c.1), ("at", .int 0 c.2)]) (fun c => (c.1, listOf #[] 0) :: news) (fun c => ∀ p ∈ news, p.1 < c.1) ?_ ?_
  · simp only [List.take_succ_cons, List.take_zero]
    walk_at "GO"
    show At _ _ _ _ _ _ _
    exact At.intro ⟨_, _⟩ (by assumption) (by assumption) (by kst_all) (fun _ h => h) (by assumption)
  simp only [List.drop_succ_cons, List.drop_zero]
  clear F' N'
  intro c h₁ tk₁ u₁ F' N' hlt
  obtain ⟨r, t₁⟩ := c
  dsimp only [kstB] at F' N' hlt
  refine wpAny_execs_cons ?_
  refine while_at (σ := GpS) (g := g') (L := L') (fun c => [("pattern", .str P tP), ("parts", .ref r), ("at", .int c.i c.ti)]) (fun c => (r, listOf c.refs c.n) :: (c.tl ++ news)) (fun c => 0 ≤ c.i ∧ c.i ≤ P.length ∧ OwnOff (c.tl ++ news) [r] ∧ FreshTl news c.tl ∧ PartsIn w c.tl c.refs.toList c.ps ∧ (c.refs.size : Int) ≤ c.i ∧ Soon P c.i c.ps) (fun c => P.length - c.i.toNat) ⟨0, t₁, 0, #[], [], []⟩ F' N' (by kst_all) (fun _ h => h) ⟨Int.le_refl 0, by dsimp only; omega, off_lt hlt, .nil, trivial, by simp, .start⟩ ?_ (by passes_own)
  clear F' N'
  intro c h₂ tk₂ u₂ F' N' hI
  obtain ⟨i, ti, n, refs, tl, ps⟩ := c
  dsimp only [kstB] at F' N' hI
  obtain ⟨h0, h1, hoff, hfr, hps, hsz, hsoon⟩ := hI
  k_fold
  walk_at "GO"
  · have hl : i < P.length := by assumption
    exact absurd (item_yes (d := 42) (e := Str.ofString "*") h0 hl (by assumption) (by decide)) (hs _ (at_mem h0 hl)).1
  · have hl : i < P.length := by assumption
    exact absurd (item_yes (d := 63) (e := Str.ofString "?") h0 hl (by assumption) (by decide)) (hs _ (at_mem h0 hl)).2
  · have hl : i < P.length := by assumption
    have hc := item_yes (d := 91) (e := Str.ofString "[") h0 hl (by assumption) (by decide)
    k_dflt (refine' Spec.use (lot_at_spec _ _ _ _ P _ (i + 1) _ hP (by omega) (by omega) _) ?k1 ?k2 ?k3 ?k4 ?k5 ?kK ?kd ?ku ?_; (walk_at "USE"))
    intro v' h' tk' news' F' N' hO
    (try k_sweep)
    (try dsimp only)
    unfold LotOut at hO
    cases hlot : lotAt P (i + 1) with
    | none =>
      rw [hlot] at hO
      obtain ⟨rfl, rfl⟩ := hO
      walk_at "GO"
      refine hret _ _ _ news (by assumption) (fun p hp => (‹News h₀ L _ _› : News h₀ L _ _) p (.tail _ (List.mem_append_right _ hp))) ⟨none, hsoon.bad h0 hl hc hlot, rfl, rfl⟩
    | some x =>
      obtain ⟨neg, prs, rest⟩ := x
      rw [hlot] at hO
      obtain ⟨tl', t, x, k, tk, rfl, rfl, htl, ht, hpart, hk0, hk1, hk2⟩ := hO
      have hoff2 : OwnOff ((tl' ++ tl) ++ news) [r] := off_ne fun p hp => by
        rw [List.append_assoc] at hp
        rcases List.mem_append.mp hp with hp | hp
        · exact Nat.ne_of_gt (htl p hp _ (.head _))
        · exact hoff p hp r (.head _)
      have N2 : News g' L' h' ((r, listOf refs n) :: ((tl' ++ tl) ++ news)) := fun p hp => by
        rw [List.append_assoc] at hp
        rcases List.mem_cons.mp hp with rfl | hp
        · exact N' _ (List.mem_append_right _ (.head _))
        · rcases List.mem_append.mp hp with hp | hp
          · exact N' _ (List.mem_append_left _ hp)
          · exact N' _ (List.mem_append_right _ (.tail _ hp))
      have ht2 : (t, tupOf #[x, .int k tk]) ∈ (tl' ++ tl) ++ news := List.mem_append_left _ (List.mem_append_left _ ht)
      obtain ⟨led2, hled2⟩ : ∃ l, l = (tl' ++ tl) ++ news := ⟨_, rfl⟩
      rw [← hled2] at hoff2 N2 ht2
      clear N'
      walk_at "GO"
      show At _ _ _ _ _ _ _
      subst hled2
      refine At.intro ⟨k, _, _, refs.push x, tl' ++ tl, ps ++ [.lot neg prs]⟩ (by assumption) (by assumption) (by kst_all) (fun _ h => h) ?_
      dsimp only
      exact ⟨⟨by omega, hk1, hoff2, hfr.append (htl.sub fun p hp => .tail _ (List.mem_append_right _ hp)), (hps.mono fun _ h => List.mem_append_right _ h).push (hpart.mono fun _ h => List.mem_append_left _ h), by simp; omega, hsoon.lot h0 hl hc hlot hk2⟩, by omega⟩
  · have hl : i < P.length := by assumption
    have hc := item_no (d := 91) (e := Str.ofString "[") h0 hl (by assumption) (by decide)
    rename_i x dx u1 u2 u3 u4 l0 l1 l2 _ _ _
    show At _ _ _ _ _ _ _
    refine At.intro ⟨i + 1, _, _, refs.push (.ref x), _ :: _ :: tl, ps ++ [.sign (at_ P i)]⟩ (by assumption) (news_rot (by assumption)) (by kst_all) (fun _ h => h) ?_
    dsimp only
    have hdx : ∀ p ∈ news, p.1 < dx := fun p hp => l0 p (.tail _ (List.mem_append_right _ hp))
    refine ⟨⟨by omega, by omega, off_cons (Nat.ne_of_gt (Nat.lt_trans l1.1 l2)) (off_cons (Nat.ne_of_gt l1.1) hoff), (hfr.cons hdx).cons fun p hp => Nat.lt_trans (hdx p hp) l2, (hps.mono fun _ h => .tail _ (.tail _ h)).push (sign_item h0 hl (.head _) (.tail _ (.head _))), by simp; omega, hsoon.sign h0 hl hc⟩, by omega⟩
  · exact hret _ _ _ _ (by assumption) (by assumption) ⟨some ps, hsoon.done (by assumption), tl, r, n, refs, rfl, rfl, hfr, hlt, hoff, hps, by omega⟩
end Mine

end PartGP

section PartFA
open PySem PySem.W PyProof.Rows
namespace Mine
def EvQ (s : Shared) (v₀ v : Value) (s₁ : Shared) : Prop := v = v₀ ∧ ∃ tk, s₁ = { s with toks := tk }
theorem EvQ.intro {s : Shared} {v : Value} {tk : Nat} : EvQ s v v { s with toks := tk } := ⟨rfl, tk, rfl⟩
section
variable {prog : Program} {w : World} {A : Around} {E : Value → Shared → Prop} {Q : Flow → Shared → Prop} {s : Shared} {env : Env} {g : Heap}

theorem items_at {σ : Type} {target : Expr} {body : List Stmt} {ax : Addr} {lo : Obj} {vs : List Value} (Ps : σ → List (Str × Value)) (Led : σ → List (Addr × Obj)) (I : Nat → σ → Prop) (J : Addr)
    (hax : ∀ i c, I i c → (ax, lo) ∈ Led c)
    (turn : ∀ (i : Nat) (v : Value) (c : σ) (o : Obj) h tk u, vs[i]? = some v → o.cls = .type "list_iterator" → OwnOff (Led c) [J] → I i c → Fr g env.locals h (kstB u (Ps c)) → News g env.locals h ((J, o) :: Led c) →
      wpAny (model prog w) A (assign target env v) (fun _ s₂ => wpAny (model prog w) A (execs body env) (LoopQ (At g env.locals s Ps (fun c => (J, o) :: Led c) fun c => I (i + 1) c ∧ OwnOff (Led c) [J]) Q) E s₂) E { s with heap := h, toks := tk })
    (done : ∀ (c : σ) h tk u, I vs.length c → Fr g env.locals h (kstB u (Ps c)) → News g env.locals h (Led c) → Q .next { s with heap := h, toks := tk }) :
    ∀ (k i : Nat) (c : σ) (m : Str → Option Value) (news : List (Addr × Obj)), i + k = vs.length → (∀ p ∈ Ps c, m p.1 = some p.2) → (∀ p ∈ Led c, p ∈ news) → OwnOff (Led c) [J] → I i c →
      ItemsRest prog w A E g env target body Q s [(J, "list_iterator")] [(ax, lo)] ((vs.drop i).map .val) m news
  | 0, i, c, m, news, hk, hp, hl, hoff, hi => by
    have e : vs.drop i = [] := List.drop_eq_nil_of_le (by omega)
    rw [e]
    refine ItemsRest.zero fun h tk F N => ?_
    have hi' : I vs.length c := by rw [← hk]; exact hi
    exact done c h tk m hi' (by rw [kstB_self hp]; exact F) fun p hp => N p (hl p hp)
  | k + 1, i, c, m, news, hk, hp, hl, hoff, hi => by
    have hlt : i < vs.length := by omega
    rw [List.drop_eq_getElem_cons hlt, List.map_cons]
    refine ItemsRest.val fun h tk F => AllObj.cons fun o ho => AllObj.nil fun N => ?_
    refine wpAny_mono (turn i vs[i] c o h tk m (List.getElem?_eq_getElem hlt) ho hoff hi (by rw [kstB_self hp]; exact F) (fun p hp => ?_)) (fun _ s₂ h₂ => wpAny_mono h₂ (fun f s₃ q => ?_) fun _ _ e => e) fun _ _ e => e
    · rcases List.mem_cons.mp hp with rfl | hp
      · exact N _ (.head _)
      · exact N _ (.tail _ (hl p hp))
    · have fin : At g env.locals s Ps (fun c => (J, o) :: Led c) (fun c => I (i + 1) c ∧ OwnOff (Led c) [J]) s₃ →
          UnrEndW g env.locals { s with heap := h, toks := tk } [(J, o)] (fun m' n' => SubL [(ax, lo)] n' ∧ ItemsRest prog w A E g env target body Q s [(J, "list_iterator")] [(ax, lo)] ((vs.drop (i + 1)).map .val) m' n') s₃ := by
        rintro ⟨c', h', tk', m', news', rfl, F', N', a, b, d, e⟩
        refine ⟨h', tk', m', Led c', rfl, F', fun p hp => N' p (b p hp), fun p hp q hq => ?_, ⟨hax _ _ d, trivial⟩, items_at Ps Led I J hax turn done k (i + 1) c' m' (Led c') (by omega) a (fun _ h => h) e d⟩
        rw [List.mem_singleton.mp hq]
        exact e p hp J (.head _)
      cases f with
      | ret v => exact q
      | brk => exact q
      | next => exact fin q
      | cont => exact fin q

theorem for_at {σ : Type} {target iter : Expr} {body : List Stmt} {pos : Pos} {ax : Addr} {lo : Obj} {vs : List Value} {n : Nat} {m : Str → Option Value} {news : List (Addr × Obj)} (Ps : σ → List (Str × Value)) (Led : σ → List (Addr × Obj)) (I : Nat → σ → Prop) (c₀ : σ)
    (F : Fr g env.locals s.heap m) (N : News g env.locals s.heap news) (hp : ∀ p ∈ Ps c₀, m p.1 = some p.2) (hl : ∀ p ∈ Led c₀, p ∈ news) (hi : I 0 c₀)
    (hax : ∀ i c, I i c → (ax, lo) ∈ Led c) (hc : lo.cls = .type "list") (hd : lo.data = .seq vs.toArray n)
    (hit : wpAny (model prog w) A (eval iter env) (EvQ s (.ref ax)) E s)
    (turn : ∀ (i : Nat) (v : Value) (c : σ) (J : Addr) (o : Obj) h tk u, vs[i]? = some v → o.cls = .type "list_iterator" → OwnOff (Led c) [J] → I i c → Fr g env.locals h (kstB u (Ps c)) → News g env.locals h ((J, o) :: Led c) →
      wpAny (model prog w) A (assign target env v) (fun _ s₂ => wpAny (model prog w) A (execs body env) (LoopQ (At g env.locals s Ps (fun c => (J, o) :: Led c) fun c => I (i + 1) c ∧ OwnOff (Led c) [J]) Q) E s₂) E { s with heap := h, toks := tk })
    (done : ∀ (c : σ) h tk u, I vs.length c → Fr g env.locals h (kstB u (Ps c)) → News g env.locals h (Led c) → Q .next { s with heap := h, toks := tk })
    (hh : A.handled = none) (hs : ∀ x, foldedSetIterable iter env x = pure x) (hE : PassesOwn (model prog w) A env E) :
    wpAny (model prog w) A (exec (.For target iter body [] pos) env) Q E s := by
  refine For_turns F (wpAny_mono hit (fun xv s₁ h₁ => ?_) fun _ _ e => e) hs hE
  obtain ⟨rfl, tk, rfl⟩ := h₁
  refine iter_listTurns hh F (fun p hp => N p (hl p hp)) (hax 0 c₀ hi) hc hd fun J hJ => ?_
  have r := items_at (prog := prog) (w := w) (A := A) (E := E) (Q := Q) (s := { s with toks := tk }) (env := env) (g := g) (vs := vs) Ps Led I J hax (fun i v c o h tk' u a b d e F' N' => turn i v c J o h tk' u a b d e F' N') done vs.length 0 c₀ m (Led c₀) (by omega) hp (fun _ h => h) (off_lt hJ) hi
  simpa using r
end
end Mine

end PartFA

section PartFN
open PySem PySem.W PyProof.Rows
namespace Mine
def EvL (g : Heap) (L : Addr) (s : Shared) (m : Str → Option Value) (news : List (Addr × Obj)) (PV : Value → Prop) (v : Value) (s₁ : Shared) : Prop :=
  ∃ (ax : Addr) (vs : List Value) (n : Nat) (h : Heap) (tk : Nat), v = .ref ax ∧ s₁ = { s with heap := h, toks := tk } ∧ Fr g L h m ∧ News g L h ((ax, listOf vs.toArray n) :: news) ∧ (∀ v ∈ vs, PV v)
theorem EvL.intro {g : Heap} {L : Addr} {s : Shared} {m : Str → Option Value} {news : List (Addr × Obj)} {PV : Value → Prop} {ax : Addr} {vs : List Value} {n : Nat} {h : Heap} {tk : Nat}
    (F : Fr g L h m) (N : News g L h ((ax, listOf vs.toArray n) :: news)) (hv : ∀ v ∈ vs, PV v) : EvL g L s m news PV (.ref ax) { s with heap := h, toks := tk } := ⟨ax, vs, n, h, tk, rfl, rfl, F, N, hv⟩
section
variable {prog : Program} {w : World} {A : Around} {E : Value → Shared → Prop} {Q : Flow → Shared → Prop} {s : Shared} {env : Env} {g : Heap}
theorem for_new {target iter : Expr} {body : List Stmt} {pos : Pos} {m : Str → Option Value} {news : List (Addr × Obj)} (ps : List (Str × Value)) (PV : Value → Prop)
    (F : Fr g env.locals s.heap m) (hp : ∀ p ∈ ps, m p.1 = some p.2)
    (hit : wpAny (model prog w) A (eval iter env) (EvL g env.locals s m news PV) E s)
    (turn : ∀ (v : Value) (ax J : Addr) (lo o : Obj) h tk u, PV v → o.cls = .type "list_iterator" → Fr g env.locals h (kstB u ps) → News g env.locals h ((J, o) :: (ax, lo) :: news) →
      wpAny (model prog w) A (assign target env v) (fun _ s₂ => wpAny (model prog w) A (execs body env) (LoopQ (At g env.locals s (fun _ : Unit => ps) (fun _ => (J, o) :: (ax, lo) :: news) fun _ => True) Q) E s₂) E { s with heap := h, toks := tk })
    (done : ∀ h tk u, Fr g env.locals h (kstB u ps) → News g env.locals h news → Q .next { s with heap := h, toks := tk })
    (hh : A.handled = none) (hs : ∀ x, foldedSetIterable iter env x = pure x) (hE : PassesOwn (model prog w) A env E) :
    wpAny (model prog w) A (exec (.For target iter body [] pos) env) Q E s := by
  refine For_turns F (wpAny_mono hit (fun xv s₁ h₁ => ?_) fun _ _ e => e) hs hE
  obtain ⟨ax, vs, n, h, tk, rfl, rfl, F₁, N₁, hv⟩ := h₁
  refine iter_listTurns (n := n) hh F₁ N₁ (.head _) rfl rfl fun J hJ => ?_
  have r := items_at (prog := prog) (w := w) (A := A) (E := E) (Q := Q) (s := { s with heap := h, toks := tk }) (env := env) (g := g) (target := target) (body := body) (vs := vs) (ax := ax) (lo := listOf vs.toArray n) (fun _ : Unit => ps) (fun _ => (ax, listOf vs.toArray n) :: news) (fun _ _ => True) J
    (fun _ _ _ => .head _)
    (fun i v c o h' tk' u hi ho hoff _ F' N' => by
      refine wpAny_mono (turn v ax J _ o h' tk' u (hv v (List.mem_of_getElem? hi)) ho F' N') (fun _ s₂ h₂ => wpAny_mono h₂ (fun f s₃ q => ?_) fun _ _ e => e) fun _ _ e => e
      cases f with
      | ret v => exact q
      | brk => exact q
      | next =>
        obtain ⟨c', h'', tk'', m', nw, e, F'', N'', a, b, _⟩ := q
        exact ⟨c', h'', tk'', m', nw, e, F'', N'', a, b, trivial, hoff⟩
      | cont =>
        obtain ⟨c', h'', tk'', m', nw, e, F'', N'', a, b, _⟩ := q
        exact ⟨c', h'', tk'', m', nw, e, F'', N'', a, b, trivial, hoff⟩)
    (fun c h' tk' u _ F' N' => done h' tk' u F' fun p hp => N' p (.tail _ hp)) vs.length 0 () m _ (by omega) hp (fun _ h => h) (off_lt hJ) trivial
  simpa using r
/-- the same, its frame's name said apart (to be applied with the goal kept shut: a long display in the head is costly to open) -/
theorem for_newR {L : Addr} {target iter : Expr} {body : List Stmt} {pos : Pos} {m : Str → Option Value} {news : List (Addr × Obj)} (ps : List (Str × Value)) (PV : Value → Prop)
    (F : Fr g L s.heap m) (hL : env.locals = L) (hp : ∀ p ∈ ps, m p.1 = some p.2)
    (hit : wpAny (model prog w) A (eval iter env) (EvL g L s m news PV) E s)
    (turn : ∀ (v : Value) (ax J : Addr) (lo o : Obj) h tk u, PV v → o.cls = .type "list_iterator" → Fr g L h (kstB u ps) → News g L h ((J, o) :: (ax, lo) :: news) →
      wpAny (model prog w) A (assign target env v) (fun _ s₂ => wpAny (model prog w) A (execs body env) (LoopQ (At g L s (fun _ : Unit => ps) (fun _ => (J, o) :: (ax, lo) :: news) fun _ => True) Q) E s₂) E { s with heap := h, toks := tk })
    (done : ∀ h tk u, Fr g L h (kstB u ps) → News g L h news → Q .next { s with heap := h, toks := tk })
    (hh : A.handled = none) (hs : ∀ x, foldedSetIterable iter env x = pure x) (hE : PassesOwn (model prog w) A env E) :
    wpAny (model prog w) A (exec (.For target iter body [] pos) env) Q E s := by
  subst hL
  exact for_new ps PV F hp hit turn done hh hs hE
end
end Mine

end PartFN

section PartFR
open PySem PySem.W PyProof.Rows
namespace Mine
/-- a loop's head that gives a range of at most N turns -/
def EvR (g : Heap) (L : Addr) (s : Shared) (m : Str → Option Value) (news : List (Addr × Obj)) (N : Nat) (v : Value) (s₁ : Shared) : Prop :=
  ∃ (r : Addr) (b : Int) (t₀ u₀ v₀ : Tok) (n : Nat) (h : Heap) (tk : Nat), v = .ref r ∧ s₁ = { s with heap := h, toks := tk } ∧ Fr g L h m ∧ News g L h news ∧ IsRange h r 0 b 1 t₀ u₀ v₀ ∧ Builtin.Range.small 0 b 1 = true ∧ Builtin.Range.rangeSize 0 b 1 = (n : Int) ∧ n ≤ N
theorem EvR.intro {g : Heap} {L : Addr} {s : Shared} {m : Str → Option Value} {news : List (Addr × Obj)} {N : Nat} {r : Addr} {b : Int} {t₀ u₀ v₀ : Tok} {h : Heap} {tk : Nat} (n : Nat)
    (F : Fr g L h m) (Ne : News g L h news) (hr : IsRange h r 0 b 1 t₀ u₀ v₀) (h1 : Builtin.Range.small 0 b 1 = true) (h2 : Builtin.Range.rangeSize 0 b 1 = (n : Int)) (h3 : n ≤ N) : EvR g L s m news N (.ref r) { s with heap := h, toks := tk } :=
  ⟨r, b, t₀, u₀, v₀, n, h, tk, rfl, rfl, F, Ne, hr, h1, h2, h3⟩
section
variable {prog : Program} {w : World} {A : Around} {E : Value → Shared → Prop} {Q : Flow → Shared → Prop} {s : Shared} {env : Env} {g : Heap}
theorem range_at {σ : Type} {x : Str} {body : List Stmt} (Ps : σ → List (Str × Value)) (Led : σ → List (Addr × Obj)) (I : σ → Prop) (J : Addr) (n N : Nat) (hnN : n ≤ N)
    (turn : ∀ (i : Nat) (c : σ) (t : Tok) (o : Obj) h tk u, i < N → OwnOff (Led c) [J] → I c → Fr g env.locals h (fun y => if y = x then some (.int (0 + (i : Int)) t) else kstB u (Ps c) y) → News g env.locals h ((J, o) :: Led c) →
      wpAny (model prog w) A (execs body env) (LoopQ (At g env.locals s Ps (fun c => (J, o) :: Led c) fun c => I c ∧ OwnOff (Led c) [J]) Q) E { s with heap := h, toks := tk })
    (done : ∀ (c : σ) h tk u, I c → Fr g env.locals h (kstB u (Ps c)) → News g env.locals h (Led c) → Q .next { s with heap := h, toks := tk }) :
    ∀ (k i : Nat) (c : σ) (m : Str → Option Value) (news : List (Addr × Obj)), i + k = n → (∀ p ∈ Ps c, m p.1 = some p.2) → (∀ p ∈ Led c, p ∈ news) → OwnOff (Led c) [J] → I c →
      RangeRest prog w A E g env x body Q s J 0 n k i m news
  | 0, i, c, m, news, _, hp, hl, _, hi => RangeRest.zero fun h tk F Ne => done c h tk m hi (by rw [kstB_self hp]; exact F) fun p hp => Ne p (hl p hp)
  | k + 1, i, c, m, news, hk, hp, hl, hoff, hi => by
    refine RangeRest.succ fun t h tk F Ne => ?_
    refine wpAny_mono (turn i c t (itR (0 + ((i + 1 : Nat) : Int)) ((n : Int) - ((i + 1 : Nat) : Int))) h tk m (by omega) hoff hi (by rw [kstB_self hp]; exact F) (fun p hp => ?_)) (fun f s₃ q => ?_) fun _ _ e => e
    · rcases List.mem_cons.mp hp with rfl | hp
      · exact Ne _ (.head _)
      · exact Ne _ (.tail _ (hl p hp))
    · have fin : ∀ {o : Obj}, At g env.locals s Ps (fun c => (J, o) :: Led c) (fun c => I c ∧ OwnOff (Led c) [J]) s₃ →
          UnrEnd g env.locals { s with heap := h, toks := tk } J o (RangeRest prog w A E g env x body Q s J 0 n k (i + 1)) s₃ := by
        rintro o ⟨c', h', tk', m', news', rfl, F', N', a, b, d, e⟩
        exact ⟨h', tk', m', Led c', rfl, F', fun p hp => N' p (b p hp), fun p hp => e p hp J (.head _), range_at Ps Led I J n N hnN turn done k (i + 1) c' m' (Led c') (by omega) a (fun _ h => h) e d⟩
      cases f with
      | ret v => exact q
      | brk => exact q
      | next => exact fin q
      | cont => exact fin q
theorem for_range {σ : Type} {L : Addr} {x : Str} {px pos : Pos} {iter : Expr} {body : List Stmt} {m : Str → Option Value} {news : List (Addr × Obj)} (N : Nat) (Ps : σ → List (Str × Value)) (Led : σ → List (Addr × Obj)) (I : σ → Prop) (c₀ : σ)
    (hL : env.locals = L) (hx : env.kindOf x = some .local) (hpk : (env.scope.kind == .class || (env.scope.kind == .module && env.locals != env.globals)) = false)
    (hp : ∀ p ∈ Ps c₀, m p.1 = some p.2) (hl : ∀ p ∈ Led c₀, p ∈ news) (hi : I c₀)
    (hit : wpAny (model prog w) A (eval iter env) (EvR g L s m news N) E s)
    (turn : ∀ (i : Nat) (c : σ) (J : Addr) (t : Tok) (o : Obj) h tk u, i < N → OwnOff (Led c) [J] → I c → Fr g L h (fun y => if y = x then some (.int (0 + (i : Int)) t) else kstB u (Ps c) y) → News g L h ((J, o) :: Led c) →
      wpAny (model prog w) A (execs body env) (LoopQ (At g L s Ps (fun c => (J, o) :: Led c) fun c => I c ∧ OwnOff (Led c) [J]) Q) E { s with heap := h, toks := tk })
    (done : ∀ (c : σ) h tk u, I c → Fr g L h (kstB u (Ps c)) → News g L h (Led c) → Q .next { s with heap := h, toks := tk })
    (hh : A.handled = none) (hs : ∀ x, foldedSetIterable iter env x = pure x) (hE : PassesOwn (model prog w) A env E) :
    wpAny (model prog w) A (exec (.For (.Name x px) iter body [] pos) env) Q E s := by
  subst hL
  refine For_invV g hx hpk (wpAny_mono hit (fun xv s₁ h₁ => ?_) fun _ _ e => e) hs hE
  obtain ⟨r, b, t₀, u₀, v₀, n, h, tk, rfl, rfl, F, Ne, hr, h1, h2, h3⟩ := h₁
  refine iter_rangeUnr (n := n) hh hr h1 h2 F (news := Led c₀) (fun p hp => Ne p (hl p hp)) fun J hJ => ?_
  exact range_at (s := { s with heap := h, toks := tk }) Ps Led I J n N h3 (fun i c t o h' tk' u a b d F' N' => turn i c J t o h' tk' u a b d F' N') done n 0 c₀ m (Led c₀) (by omega) hp (fun _ h => h) (off_lt hJ) hi
end
end Mine

end PartFR

section PartIT
open PySem PySem.W PyProof.Rows
namespace Mine
section
variable {prog : Program} {w : World} {A : Around} {E : Value → Shared → Prop} {s : Shared} {value slice : Expr} {l : Addr} {a b c : Value} {r : List Value} {u : Tok} {Q : Value → Shared → Prop}
theorem item0 (hl : s.heap.IsList l (a :: r).toArray) (h : Q a s)
    (hs : subscripted slice false (.ref l) (.int 0 u) = operate [.ref l, .int 0 u] (getItem (.ref l) (.int 0 u)) := by with_unfolding_all rfl) (hg : ∀ r, letTemporaryGo value (.ref l) r = pure () := by intro _; with_unfolding_all rfl) :
    wpAny (model prog w) A (subscriptTail value slice (.ref l) (.int 0 u)) Q E s := item_list hl (by decide) (by decide) (by simp) h hs hg
theorem item1 (hl : s.heap.IsList l (a :: b :: r).toArray) (h : Q b s)
    (hs : subscripted slice false (.ref l) (.int 1 u) = operate [.ref l, .int 1 u] (getItem (.ref l) (.int 1 u)) := by with_unfolding_all rfl) (hg : ∀ r, letTemporaryGo value (.ref l) r = pure () := by intro _; with_unfolding_all rfl) :
    wpAny (model prog w) A (subscriptTail value slice (.ref l) (.int 1 u)) Q E s := item_list hl (by decide) (by decide) (by simp) h hs hg
theorem item2 (hl : s.heap.IsList l (a :: b :: c :: r).toArray) (h : Q c s)
    (hs : subscripted slice false (.ref l) (.int 2 u) = operate [.ref l, .int 2 u] (getItem (.ref l) (.int 2 u)) := by with_unfolding_all rfl) (hg : ∀ r, letTemporaryGo value (.ref l) r = pure () := by intro _; with_unfolding_all rfl) :
    wpAny (model prog w) A (subscriptTail value slice (.ref l) (.int 2 u)) Q E s := item_list hl (by decide) (by decide) (by simp) h hs hg
end
end Mine

end PartIT

section PartCP
open PySem PySem.W PyProof.Rows PyProof.Rows.LCg
namespace Mine
section
variable {prog : Program} {w : World} {A : Around} {h₀ : Heap} {L : Addr} {m : Str → Option Value} {env : Env} {ct elt : Expr} {x : Str} {scope : Scope} {cl : List (Str × Addr)} {s : Shared} {S : List (Addr × Obj) → Prop} {P : Nat → Value → Prop} {Fin : List Value → List (Addr × Obj) → Prop} {n : Nat}
/-- a comprehension by what holds of what it has made so far -/
theorem comp_inv {σ : Type} (Led : σ → List (Addr × Obj)) (I : Nat → List Value → σ → Prop)
    (turn : ∀ i ys (c : σ) v J oI C oC D m₂ h tk (E' : Value → Shared → Prop), i < n → I i ys c → P i v → NsObj oC m₂ → m₂ x = some v → Fr h₀ L h m → News h₀ L h ((J, oI) :: (C, oC) :: (D, lst ys) :: Led c) → Off3 J C D (Led c) → ((@Ne Nat J C) ∧ (@Ne Nat J D) ∧ (@Ne Nat C D)) →
      wpAny (model prog w) A (eval elt (compEnvC scope cl C env)) (CompEnd h₀ L m { s with heap := h, toks := tk } J oI C oC D (lst ys) S (fun y news' => ∃ c', news' = Led c' ∧ I (i + 1) (ys ++ [y]) c')) E' { s with heap := h, toks := tk })
    (fin : ∀ ys c, I n ys c → Fin ys (Led c)) : ∀ c, I 0 [] c → CompRest prog w A h₀ L m env elt x scope cl s S P Fin n 0 [] (Led c) := by
  have key : ∀ (k i : Nat) (ys : List Value) (c : σ), i + k = n → I i ys c → CompRest prog w A h₀ L m env elt x scope cl s S P Fin k i ys (Led c) := by
    intro k
    induction k with
    | zero =>
      intro i ys c hk hi
      refine CompRest.zero (fin ys c ?_)
      have e : i = n := by omega
      rw [← e]; exact hi
    | succ k ih =>
      intro i ys c hk hi
      refine CompRest.succ fun v J oI C oC D m₂ h tk E' hv hC hx F N off ne => ?_
      refine wpAny_mono (turn i ys c v J oI C oC D m₂ h tk E' (by omega) hi hv hC hx F N off ne) (fun y s₂ hy => ?_) fun _ _ e => e
      obtain ⟨h', tk', nw, e, F', N', off', hS, c', e2, hi'⟩ := hy
      subst e2
      exact ⟨h', tk', _, e, F', N', off', hS, ih (i + 1) _ c' (by omega) hi'⟩
  exact fun c hi => key n 0 [] c (by omega) hi

/-- the same with a test -/
theorem comp_invT {σ : Type} (Led : σ → List (Addr × Obj)) (I : Nat → List Value → σ → Prop)
    (turn : ∀ i ys (c : σ) v J oI C oC D m₂ h tk (E' : Value → Shared → Prop), i < n → I i ys c → P i v → NsObj oC m₂ → m₂ x = some v → Fr h₀ L h m → News h₀ L h ((J, oI) :: (C, oC) :: (D, lst ys) :: Led c) → Off3 J C D (Led c) → ((@Ne Nat J C) ∧ (@Ne Nat J D) ∧ (@Ne Nat C D)) →
      wpAny (model prog w) A (isTrue ct (compEnvC scope cl C env) (eval ct (compEnvC scope cl C env))) (fun ok s' => if ok = true then
        wpAny (model prog w) A (eval elt (compEnvC scope cl C env)) (CompEnd h₀ L m { s with heap := h, toks := tk } J oI C oC D (lst ys) S (fun y news' => ∃ c', news' = Led c' ∧ I (i + 1) (ys ++ [y]) c')) E' s'
        else CompEnd h₀ L m { s with heap := h, toks := tk } J oI C oC D (lst ys) S (fun _ news' => ∃ c', news' = Led c' ∧ I (i + 1) ys c') Value.none s') E' { s with heap := h, toks := tk })
    (fin : ∀ ys c, I n ys c → Fin ys (Led c)) : ∀ c, I 0 [] c → LCt.CompRestT prog w A h₀ L m env ct elt x scope cl s S P Fin n 0 [] (Led c) := by
  have key : ∀ (k i : Nat) (ys : List Value) (c : σ), i + k = n → I i ys c → LCt.CompRestT prog w A h₀ L m env ct elt x scope cl s S P Fin k i ys (Led c) := by
    intro k
    induction k with
    | zero =>
      intro i ys c hk hi
      refine LCt.CompRestT.zero (fin ys c ?_)
      have e : i = n := by omega
      rw [← e]; exact hi
    | succ k ih =>
      intro i ys c hk hi
      refine LCt.CompRestT.succ fun v J oI C oC D m₂ h tk E' hv hC hx F N off ne => ?_
      refine wpAny_mono (turn i ys c v J oI C oC D m₂ h tk E' (by omega) hi hv hC hx F N off ne) (fun ok s₂ hk => ?_) fun _ _ e => e
      cases ok with
      | true =>
        simp only [if_true] at hk ⊢
        refine wpAny_mono hk (fun y s₃ hy => ?_) fun _ _ e => e
        obtain ⟨h', tk', nw, e, F', N', off', hS, c', e2, hi'⟩ := hy
        subst e2
        exact ⟨h', tk', _, e, F', N', off', hS, ih (i + 1) _ c' (by omega) hi'⟩
      | false =>
        simp only [Bool.false_eq_true, if_false] at hk ⊢
        obtain ⟨h', tk', nw, e, F', N', off', hS, c', e2, hi'⟩ := hk
        subst e2
        exact ⟨h', tk', _, e, F', N', off', hS, ih (i + 1) _ c' (by omega) hi'⟩
  exact fun c hi => key n 0 [] c (by omega) hi
end
end Mine

end PartCP

section PartTK
open PySem PySem.W PyProof.Rows
namespace Mine
set_option maxRecDepth 100000
set_option maxHeartbeats 4000000
local macro_rules | `(tactic| walk_at "GO") => `(tactic| repeat' (first | (k_unfold; (try dsimp only)) | (walk1; (try dsimp only)) | (leave1; walk_say "STEP leave1"; try dsimp only) | fail "no step"))
local macro_rules | `(tactic| walk_at "LoopQ") => `(tactic| refine loopQ_ret ?_)
local macro_rules | `(tactic| walk_at "CutQ") => `(tactic| refine cutQ_ret ?_)
local macro_rules | `(tactic| walk_at "EvQ") => `(tactic| exact EvQ.intro)
local macro_rules | `(tactic| k_mem) => `(tactic| ((show (_ : Addr × Obj) ∈ (_ : List (Addr × Obj))); assumption))
local macro_rules | `(tactic| walk_at "USE") => `(tactic| ((case k1 => k_asm); (case k2 => k_asm); (case k3 => k_asm); (case k4 => k_asm); (case k5 => k_asm); (case kK => first | exact rfl | assumption); (case kd => ktr_room); (case ku => ktr_units)))

theorem takes_spec (w : World) (mean : ExcName → Option Value) (mg mb : Str → Option Value) (x : Addr) (d : PartD) (e : Nat) (te : Tok) (news : List (Addr × Obj)) (hx : PartIn w news (.ref x) d) :
    Spec w mean mg mb 36 2 [.ref x, .str (ch e) te] news (fun v news' => v = .bool (takesD d e) ∧ news' = news) := by
  unfold Spec
  w_top off
  k_fill
  intro dp un gd cn cs a ccd cl outer A₀ base h₀ L m s Q E B F X N T hk hd hu hret
  refine wpAny_call ?_
  k_dflt cell_enter
  have mk := kstMark
  rename_i g' L' h' FG' F' N' B' X' T'
  refine rebase [("self", .ref x), ("sign", .str (ch e) te)] F' (by kst_all) ?_
  clear F'
  intro u F'
  dsimp only [kstB] at F'
  cases d with
  | sign c =>
    obtain ⟨x', dx, t1, t2, t3, t4, tt, ts, e1, h1, h2⟩ := hx
    cases e1
    walk_at "GO"
    exact hret _ _ _ _ (by assumption) (by assumption) ⟨by rw [ch_beq]; rfl, rfl⟩
  | lot neg prs =>
    obtain ⟨x', dx, r, n, refs, t1, t2, t3, t4, tt, e1, h1, h2, h3, h4⟩ := hx
    cases e1
    refine cutAt (σ := Tok) 3 g' L' (fun c => [("self", .ref x), ("sign", .str (ch e) te), ("inside", .bool false)]) (fun _ => news) (fun _ => True) ?_ ?_
    · simp only [List.take_succ_cons, List.take_zero]
      walk_at "GO"
      show At _ _ _ _ _ _ _
      exact At.intro 0 (by assumption) (by assumption) (by kst_all) (fun _ h => h) trivial
    simp only [List.drop_succ_cons, List.drop_zero]
    clear F' N'
    intro _ h₁ tk₁ u₁ F' N' _
    dsimp only [kstB] at F'
    refine wpAny_execs_cons ?_
    refine for_at (σ := Bool) (g := g') (ax := r) (n := n) (vs := refs.toList) (lo := listOf refs n) (fun c => [("self", .ref x), ("sign", .str (ch e) te), ("inside", .bool c)]) (fun _ => news) (fun i c => c = (prs.take i).any (inPair e)) false F' N' (by kst_all) (fun _ h => h) rfl (fun _ _ _ => h3) rfl rfl ?_ ?_ ?_ rfl (by intro _; rfl) (by passes_own)
    · walk_at "GO"
    · clear F' N'
      intro i v c J o h tk u hv ho hoff hI F' N'
      dsimp only [kstB] at F' N'
      obtain ⟨p, hp, at', q1, q2, e2, hpm⟩ := h4.get hv
      subst e2
      k_fold
      walk_at "GO"
      · have q := lt_ch.mp (by assumption)
        show At _ _ _ _ _ _ _
        exact At.intro c (by assumption) (by assumption) (by kst_all) (fun _ h => h) ⟨by rw [any_take _ hp, not_pair (.inl q), Bool.or_false, hI], hoff⟩
      · have q : p.2 < e := lt_ch.mp (by assumption)
        show At _ _ _ _ _ _ _
        exact At.intro c (by assumption) (by assumption) (by kst_all) (fun _ h => h) ⟨by rw [any_take _ hp, not_pair (.inr q), Bool.or_false, hI], hoff⟩
      · have q1 : ¬ e < p.1 := fun x => absurd (lt_ch.mpr x) (by assumption)
        have q2 : ¬ p.2 < e := fun x => absurd (lt_ch.mpr x) (by assumption)
        show At _ _ _ _ _ _ _
        exact At.intro true (by assumption) (by assumption) (by kst_all) (fun _ h => h) ⟨by rw [any_take _ hp, yes_pair q1 q2, Bool.or_true], hoff⟩
    · clear F' N'
      intro c h tk u hI F' N'
      dsimp only [kstB] at F' N'
      rw [any_whole _ h4.length] at hI
      dsimp only
      (try k_fold)
      walk_at "GO"
      subst hI
      exact hret _ _ _ _ (by assumption) (by assumption) ⟨rfl, rfl⟩

theorem takes_item (w : World) (mean : ExcName → Option Value) (mg mb : Str → Option Value) (x : Addr) (d : PartD) (P : Str) (i : Int) (te : Tok) (news : List (Addr × Obj)) (hx : PartIn w news (.ref x) d) (h0 : 0 ≤ i) (h1 : i < P.length) :
    Spec w mean mg mb 36 2 [.ref x, .str (Txt.item P i) te] news (fun v news' => v = .bool (takesD d (at_ P i)) ∧ news' = news) := by
  rw [item_at h0 h1]
  exact takes_spec w mean mg mb x d _ te news hx
end Mine

end PartTK

section PartMT
open PySem PySem.W PyProof.Rows
namespace Mine
set_option maxRecDepth 100000
set_option maxHeartbeats 4000000
local macro_rules | `(tactic| walk_at "GO") => `(tactic| repeat' (first | (k_unfold; (try dsimp only)) | (walk1; (try dsimp only)) | (leave1; walk_say "STEP leave1"; try dsimp only) | fail "no step"))
local macro_rules | `(tactic| walk_at "LoopQ") => `(tactic| refine loopQ_ret ?_)
local macro_rules | `(tactic| walk_at "CutQ") => `(tactic| refine cutQ_ret ?_)
local macro_rules | `(tactic| walk_at "EvQ") => `(tactic| exact EvQ.intro)
local macro_rules | `(tactic| k_mem) => `(tactic| ((show (_ : Addr × Obj) ∈ (_ : List (Addr × Obj))); assumption))
local macro_rules | `(tactic| walk_at "USE") => `(tactic| ((case k1 => k_asm); (case k2 => k_asm); (case k3 => k_asm); (case k4 => k_asm); (case k5 => k_asm); (case kK => first | exact rfl | assumption); (case kd => ktr_room); (case ku => ktr_units)))
local macro_rules | `(tactic| walk_at "call builtin:len") => `(tactic| (k_here; (with_reducible show wpAny _ _ (call (Value.builtin "len") [Value.ref _]) _ _ _); k_dflt (refine' len_list ?kl ?kf ?_; (case kl => exact News.isList (by k_asm) (by k_mem)); (case kf => omega))))
local macro_rules | `(tactic| walk_at "subscriptTail Name Name ref int") => `(tactic| (k_here; k_dflt (refine' item_list ?kl ?k0 ?kf ?kx ?_; (case kl => exact News.isList (by k_asm) (by k_mem)); (case k0 => omega); (case kf => omega); (case kx => assumption))))
local macro_rules | `(tactic| walk_at "call ref") => `(tactic| (k_here; (with_reducible show wpAny _ _ (call (Value.ref 36) [_, _]) _ _ _); k_dflt (refine' Spec.use (takes_item _ _ _ _ _ _ _ _ _ _ ?kx ?k00 ?k01) ?k1 ?k2 ?k3 ?k4 ?k5 ?kK ?kd ?ku ?_; (case kx => assumption); (case k00 => omega); (case k01 => omega); (walk_at "USE")); intro v' h' tk' news' F' N' hO'; (obtain ⟨e1', e2'⟩ := hO'); subst e1'; (replace e2' := Eq.symm e2'); subst e2'; (try k_sweep); (try dsimp only)))
local macro_rules | `(tactic| walk_at "exec While BoolOp cons nil") => `(tactic| (k_here; k_dflt (refine whl_start 100 ?_)))

theorem matches_spec (w : World) (mean : ExcName → Option Value) (mg mb : Str → Option Value) (pl : Addr) (refs : Array Value) (n : Nat) (ps : List PartD) (P : Str) (tP : Tok) (news : List (Addr × Obj))
    (hm : (pl, listOf refs n) ∈ news) (hps : PartsIn w news refs.toList ps) (hsz : refs.size ≤ 1000) (hP : P.length ≤ 1000) :
    Spec w mean mg mb 50 5 [.ref pl, .str P tP] news (fun v news' => v = .bool (matchD ps (chars P)) ∧ news' = news) := by
  unfold Spec
  w_top off
  k_fill
  intro dp un gd cn cs a ccd cl outer A₀ base h₀ L m s Q E B F X N T hk hd hu hret
  refine wpAny_call ?_
  k_dflt cell_enter
  have mk := kstMark
  rename_i g' L' h' FG' F' N' B' X' T'
  refine rebase [("parts", .ref pl), ("text", .str P tP)] F' (by kst_all) ?_
  clear F'
  intro u F'
  dsimp only [kstB] at F'
  refine cutAt (σ := Tok × Tok × Tok) 4 g' L' (fun c => [("parts", .ref pl), ("text", .str P tP), ("place", .int 0 c.1), ("at", .int 0 c.2.1), ("back_place", .none), ("back_at", .int 0 c.2.2)]) (fun _ => news) (fun _ => True) ?_ ?_
  · simp only [List.take_succ_cons, List.take_zero]
    walk_at "GO"
    show At _ _ _ _ _ _ _
    exact At.intro ⟨_, _, _⟩ (by assumption) (by assumption) (by kst_all) (fun _ h => h) trivial
  simp only [List.drop_succ_cons, List.drop_zero]
  clear F' N'
  intro c h₁ tk₁ u₁ F' N' _
  obtain ⟨t1, t2, t3⟩ := c
  dsimp only [kstB] at F' N'
  refine wpAny_execs_cons ?_
  refine while_at (σ := Int × Tok × Tok) (g := g') (L := L') (fun c => [("parts", .ref pl), ("text", .str P tP), ("place", .int c.1 c.2.1), ("at", .int c.1 c.2.2), ("back_place", .none), ("back_at", .int 0 t3)]) (fun c => news) (fun c => 0 ≤ c.1 ∧ c.1 ≤ P.length ∧ c.1 ≤ ps.length ∧ matchD (ps.drop c.1.toNat) ((chars P).drop c.1.toNat) = matchD ps (chars P)) (fun c => P.length - c.1.toNat) ⟨0, t1, t2⟩ F' N' (by kst_all) (fun _ h => h) ⟨Int.le_refl 0, by dsimp only; omega, by dsimp only; omega, rfl⟩ ?_ (by passes_own)
  clear F' N'
  intro c h₂ tk₂ u₂ F' N' hI
  obtain ⟨i, t4, t5⟩ := c
  dsimp only [kstB] at F' N' hI
  k_fold
  obtain ⟨h0, h1, h2, hmt⟩ := hI
  have hlen := hps.length
  rw [Array.length_toList] at hlen
  by_cases hi : i < ps.length
  · obtain ⟨v, p, hv, hp, hvp⟩ := hps.get (i := i.toNat) (by omega)
    cases p with
    | sign c =>
      have hvp' := hvp
      obtain ⟨x, dx, q1, q2, q3, q4, q5, q6, e1, m1, m2⟩ := hvp
      subst e1
      walk_at "GO"
      · show At _ _ _ _ _ _ _
        exact At.intro ⟨i + 1, _, _⟩ (by assumption) (by assumption) (by kst_all) (fun _ h => h) ⟨⟨by dsimp only; omega, by dsimp only; omega, by dsimp only; omega, match_yes h0 (by assumption) hp (by assumption) hmt⟩, by dsimp only; omega⟩
      · exact hret _ _ _ _ (by assumption) (by assumption) ⟨by rw [match_no h0 (by assumption) hp (by assumption) hmt], rfl⟩
      · refine hret _ _ _ _ (by assumption) (by assumption) ⟨?_, rfl⟩
        rw [match_end (by assumption) h0 h2 hmt, hlen]; rfl
    | lot neg prs =>
      have hvp' := hvp
      obtain ⟨x, dx, r, nr, rr, q1, q2, q3, q4, q5, e1, m1, m2, m3, m4⟩ := hvp
      subst e1
      walk_at "GO"
      · show At _ _ _ _ _ _ _
        exact At.intro ⟨i + 1, _, _⟩ (by assumption) (by assumption) (by kst_all) (fun _ h => h) ⟨⟨by dsimp only; omega, by dsimp only; omega, by dsimp only; omega, match_yes h0 (by assumption) hp (by assumption) hmt⟩, by dsimp only; omega⟩
      · exact hret _ _ _ _ (by assumption) (by assumption) ⟨by rw [match_no h0 (by assumption) hp (by assumption) hmt], rfl⟩
      · refine hret _ _ _ _ (by assumption) (by assumption) ⟨?_, rfl⟩
        rw [match_end (by assumption) h0 h2 hmt, hlen]; rfl
  · walk_at "GO"
    · exact hret _ _ _ _ (by assumption) (by assumption) ⟨by rw [match_over h0 (by assumption) hi hmt], rfl⟩
    · refine hret _ _ _ _ (by assumption) (by assumption) ⟨?_, rfl⟩
      rw [match_end (by assumption) h0 h2 hmt, hlen]; rfl
end Mine

end PartMT

section PartGL
open PySem PySem.W PyProof.Rows
namespace Mine
set_option maxRecDepth 100000
set_option maxHeartbeats 4000000
local macro_rules | `(tactic| walk_at "GO") => `(tactic| repeat' (first | (k_unfold; (try dsimp only)) | (walk1; (try dsimp only)) | (leave1; walk_say "STEP leave1"; try dsimp only) | fail "no step"))
local macro_rules | `(tactic| k_mem) => `(tactic| ((show (_ : Addr × Obj) ∈ (_ : List (Addr × Obj))); assumption))
local macro_rules | `(tactic| walk_at "USE") => `(tactic| ((case k1 => k_asm); (case k2 => k_asm); (case k3 => k_asm); (case k4 => k_asm); (case k5 => k_asm); (case kK => first | exact rfl | assumption); (case kd => ktr_room); (case ku => ktr_units)))

/-- what glob says of a pattern's parts and a text -/
def globD (o : Option (List PartD)) (l : List Nat) : Bool := match o with
  | none => false
  | some ps => matchD ps l

theorem glob_spec (w : World) (mean : ExcName → Option Value) (mg mb : Str → Option Value) (P : Str) (tP : Tok) (T : Str) (tT : Tok) (news : List (Addr × Obj)) (o : Option (List PartD))
    (hP : P.length ≤ 1000) (hs : ∀ c ∈ chars P, c ≠ 42 ∧ c ≠ 63) (hT : T.length ≤ 1000) (hR : PartsR (chars P) o) :
    Spec w mean mg mb 71 12 [.str P tP, .str T tT] news (fun v news' => v = .bool (globD o (chars T)) ∧ news' = news) := by
  unfold Spec
  w_top off
  k_fill
  intro dp un gd cn cs a ccd cl outer A₀ base h₀ L m s Q E B F X N T' hk hd hu hret
  refine wpAny_call ?_
  k_dflt cell_enter
  have mk := kstMark
  walk_at "GO"
  k_dflt (refine' Spec.use (glob_parts_spec _ _ _ _ P _ hP hs _) ?k1 ?k2 ?k3 ?k4 ?k5 ?kK ?kd ?ku ?_; (walk_at "USE"))
  intro v' h' tk' news' F' N' hO
  (try k_sweep)
  (try dsimp only)
  obtain ⟨o', hR', hO⟩ := hO
  have e := hR'.det hR
  subst e
  cases o' with
  | none =>
    obtain ⟨rfl, e3⟩ := hO
    replace e3 := e3.symm
    subst e3
    walk_at "GO"
    exact hret _ _ _ _ (by assumption) (by assumption) ⟨rfl, rfl⟩
  | some ps =>
    obtain ⟨tl, r, n, refs, rfl, rfl, hfr, hlt, hoff, hps, hsz⟩ := hO
    walk_at "GO"
    k_dflt (refine' Spec.use (matches_spec _ _ _ _ r refs n ps T _ ((r, listOf refs n) :: (tl ++ news)) (.head _) (hps.mono fun _ h => .tail _ (List.mem_append_left _ h)) hsz hT) ?k1 ?k2 ?k3 ?k4 ?k5 ?kK ?kd ?ku ?_; (walk_at "USE"))
    intro v2 h2 tk2 news2 F2 N2 hO2
    (try k_sweep)
    (try dsimp only)
    obtain ⟨rfl, e3⟩ := hO2
    subst e3
    walk_at "GO"
    exact hret _ _ _ news (by assumption) (fun p hp => (‹News h₀ L _ _› : News h₀ L _ _) p (.tail _ (List.mem_append_right _ hp))) ⟨rfl, rfl⟩
end Mine

end PartGL

section PartGD
open PySem PySem.W PyProof.Rows
namespace Mine
theorem chars_app (a b : Str) : chars (a ++ b) = chars a ++ chars b := by
  show (a ++ b).cps.toList = a.cps.toList ++ b.cps.toList
  rw [Str.cps_append, Array.toList_append]
/-- what a lot's text gives: its parts, whatever stands behind its end; nothing without an end -/
structure LotText (T : Str) (neg : Bool) (prs : List (Nat × Nat)) : Prop where
  ends : ∀ r, lotL (chars T ++ 93 :: r) = some (neg, prs, r)
  open_ : lotL (chars T) = none
  tame : ∀ c ∈ chars T, c ≠ 42 ∧ c ≠ 63
  short : T.length ≤ 100
abbrev pat (T : Str) : Str := Str.ofString "[" ++ T ++ Str.ofString "]"
theorem chars_pat (T : Str) : chars (pat T) = 91 :: (chars T ++ [93]) := by
  rw [chars_app, chars_app]; rfl
theorem parts_pat {T : Str} {neg : Bool} {prs : List (Nat × Nat)} (h : LotText T neg prs) (r : List Nat) {o : Option (List PartD)} (hr : PartsR r o) : PartsR (91 :: (chars T ++ 93 :: r)) (o.map (PartD.lot neg prs :: ·)) := .lot (h.ends r) hr
theorem ok_app {a b : List Nat} (ha : ∀ c ∈ a, c ≠ 42 ∧ c ≠ 63) (hb : ∀ c ∈ b, c ≠ 42 ∧ c ≠ 63) : ∀ c ∈ a ++ b, c ≠ 42 ∧ c ≠ 63 := fun c hc => (List.mem_append.mp hc).elim (ha c) (hb c)
theorem ok_lit {a : List Nat} (h : (a.all fun c => c != 42 && c != 63) = true) : ∀ c ∈ a, c ≠ 42 ∧ c ≠ 63 := fun c hc => by
  have := List.all_eq_true.mp h c hc
  simpa using this
section
variable (w : World) (mean : ExcName → Option Value) (mg mb : Str → Option Value) {T : Str} {neg : Bool} {prs : List (Nat × Nat)} (tP tS : Tok) (news : List (Addr × Obj))
theorem len_of (P : Str) {l : List Nat} (h : chars P = l) (hl : l.length ≤ 1000) : P.length ≤ 1000 := by rw [← chars_len, h]; exact hl
/-- glob on a text, by the two texts' signs -/
theorem glob_by {P S : Str} {l m : List Nat} (o : Option (List PartD)) (b : Bool) (hP : chars P = l) (hS : chars S = m) (hl : l.length ≤ 1000) (hm : m.length ≤ 1000) (hok : ∀ c ∈ l, c ≠ 42 ∧ c ≠ 63) (hR : PartsR l o) (hb : globD o m = b) :
    Spec w mean mg mb 71 12 [.str P tP, .str S tS] news (fun v news' => v = .bool b ∧ news' = news) := by
  have h := glob_spec w mean mg mb P tP S tS news o (len_of P hP hl) (by rw [hP]; exact hok) (len_of S hS hm) (by rw [hP]; exact hR)
  rw [hS, hb] at h
  exact h
theorem len_chars (h : LotText T neg prs) : (chars T).length ≤ 100 := by rw [chars_len]; exact h.short
theorem glob_one {P S : Str} {e : Nat} (h : LotText T neg prs) (hP : chars P = 91 :: (chars T ++ [93])) (hS : chars S = [e]) : Spec w mean mg mb 71 12 [.str P tP, .str S tS] news (fun v news' => v = .bool (takesD (.lot neg prs) e) ∧ news' = news) := by
  have hl := len_chars h
  refine glob_by w mean mg mb tP tS news (some [.lot neg prs]) _ hP hS (by simp; omega) (by simp) (ok_app (a := [91]) (ok_lit rfl) (ok_app h.tame (ok_lit rfl))) (parts_pat h [] .nil) ?_
  simp [globD, matchD]
theorem glob_none {P S : Str} {m : List Nat} (h : LotText T neg prs) (hP : chars P = 91 :: (chars T ++ [93])) (hS : chars S = m) (hm : m = [] ∨ m = [97, 98]) : Spec w mean mg mb 71 12 [.str P tP, .str S tS] news (fun v news' => v = .bool false ∧ news' = news) := by
  have hl := len_chars h
  refine glob_by w mean mg mb tP tS news (some [.lot neg prs]) _ hP hS (by simp; omega) (by rcases hm with rfl | rfl <;> simp) (ok_app (a := [91]) (ok_lit rfl) (ok_app h.tame (ok_lit rfl))) (parts_pat h [] .nil) ?_
  rcases hm with rfl | rfl <;> simp [globD, matchD]
theorem glob_between {P S : Str} {e : Nat} (h : LotText T neg prs) (hP : chars P = 120 :: 91 :: (chars T ++ [93, 121])) (hS : chars S = [120, e, 121]) : Spec w mean mg mb 71 12 [.str P tP, .str S tS] news (fun v news' => v = .bool (takesD (.lot neg prs) e) ∧ news' = news) := by
  have hl := len_chars h
  refine glob_by w mean mg mb tP tS news (some [.sign 120, .lot neg prs, .sign 121]) _ hP hS (by simp; omega) (by simp) (ok_app (a := [120, 91]) (ok_lit rfl) (ok_app h.tame (ok_lit rfl))) (PartsR.sign (o := some [.lot neg prs, .sign 121]) (by decide) (parts_pat h [121] (PartsR.sign (o := some []) (by decide) .nil))) ?_
  simp [globD, matchD, takesD]
theorem glob_behind {P S : Str} (h : LotText T neg prs) (hP : chars P = 120 :: 91 :: (chars T ++ [93])) (hS : chars S = [120]) : Spec w mean mg mb 71 12 [.str P tP, .str S tS] news (fun v news' => v = .bool false ∧ news' = news) := by
  have hl := len_chars h
  refine glob_by w mean mg mb tP tS news (some [.sign 120, .lot neg prs]) _ hP hS (by simp; omega) (by simp) (ok_app (a := [120, 91]) (ok_lit rfl) (ok_app h.tame (ok_lit rfl))) (PartsR.sign (o := some [.lot neg prs]) (by decide) (parts_pat h [] .nil)) ?_
  simp [globD, matchD]
theorem glob_open {P S : Str} (h : LotText T neg prs) (hP : chars P = 91 :: chars T) (hS : S.length ≤ 1000) : Spec w mean mg mb 71 12 [.str P tP, .str S tS] news (fun v news' => v = .bool false ∧ news' = news) := by
  have hl := len_chars h
  exact glob_by w mean mg mb tP tS news none _ hP rfl (by simp; omega) (by rw [chars_len]; exact hS) (ok_app (a := [91]) (ok_lit rfl) h.tame) (PartsR.bad h.open_) rfl
theorem glob_aopen {P S : Str} (h : LotText T neg prs) (hP : chars P = 97 :: 91 :: chars T) (hS : S.length ≤ 1000) : Spec w mean mg mb 71 12 [.str P tP, .str S tS] news (fun v news' => v = .bool false ∧ news' = news) := by
  have hl := len_chars h
  exact glob_by w mean mg mb tP tS news none _ hP rfl (by simp; omega) (by rw [chars_len]; exact hS) (ok_app (a := [97, 91]) (ok_lit rfl) h.tame) (PartsR.sign (o := none) (by decide) (PartsR.bad h.open_)) rfl
end
end Mine

end PartGD

section PartTA
open PySem PySem.W PyProof.Rows
namespace Mine
set_option maxRecDepth 100000
set_option maxHeartbeats 4000000
local macro_rules | `(tactic| walk_at "GO") => `(tactic| repeat' (first | (k_unfold; (try dsimp only)) | (walk1; (try dsimp only)) | (leave1; walk_say "STEP leave1"; try dsimp only) | fail "no step"))
local macro_rules | `(tactic| k_mem) => `(tactic| ((show (_ : Addr × Obj) ∈ (_ : List (Addr × Obj))); assumption))

local macro_rules | `(tactic| walk_at "subscriptTail Name Constant ref int") => `(tactic| (k_here; k_dflt (first
  | ((with_reducible show wpAny _ _ (subscriptTail _ _ (Value.ref _) (Value.int 0 _)) _ _ _); refine' item0 ?kl ?_; (case kl => exact News.isList (by k_asm) (by k_mem)); k_whole)
  | ((with_reducible show wpAny _ _ (subscriptTail _ _ (Value.ref _) (Value.int 1 _)) _ _ _); refine' item1 ?kl ?_; (case kl => exact News.isList (by k_asm) (by k_mem)); k_whole)
  | ((with_reducible show wpAny _ _ (subscriptTail _ _ (Value.ref _) (Value.int 2 _)) _ _ _); refine' item2 ?kl ?_; (case kl => exact News.isList (by k_asm) (by k_mem)); k_whole))))
theorem fmod_ok (a : Int) : 0 ≤ a.fmod 2147483647 ∧ a.fmod 2147483647 < 2147483647 := by
  rw [Int.fmod_eq_emod_of_nonneg _ (by decide)]
  exact ⟨Int.emod_nonneg _ (by decide), Int.emod_lt_of_pos _ (by decide)⟩
theorem fmod_top (a : Int) {b : Int} (h : 1 ≤ b) : 0 ≤ a.fmod b ∧ a.fmod b < b := by
  rw [Int.fmod_eq_emod_of_nonneg _ (by omega)]
  exact ⟨Int.emod_nonneg _ (by omega), Int.emod_lt_of_pos _ (by omega)⟩
theorem fdiv_top {a b : Int} (h0 : 0 ≤ a) (h : 1 ≤ b) : 0 ≤ a.fdiv b := by
  rw [Int.fdiv_eq_ediv_of_nonneg _ (by omega)]
  exact Int.ediv_nonneg h0 (by omega)
theorem mul_fmod (a b : Int) : IntMulOk b (a.fmod 2147483647) := IntMulOk.of_right (intBits_le_64 (by have := fmod_ok a; omega) (by have := fmod_ok a; omega))
local macro_rules | `(tactic| walk_at "binaryOp Mult int int") => `(tactic| refine mul_int ?_ (mul_fmod _ _))
abbrev srcObj (x : Int) (t1 : Tok) (y : Int) (t2 : Tok) (n : Nat) : Obj := listOf #[.int x t1, .int y t2] n
/-- the source of draws: two ints, not negative, the second small -/
def SrcOk (o : Obj) : Prop := ∃ x t1 y t2 n, o = srcObj x t1 y t2 n ∧ 0 ≤ x ∧ 0 ≤ y ∧ y < 2147483647
def TakeOut (src : Addr) (top : Int) (news : List (Addr × Obj)) (v : Value) (news' : List (Addr × Obj)) : Prop := ∃ d t o', v = .int d t ∧ 0 ≤ d ∧ d < top ∧ news' = (src, o') :: news ∧ SrcOk o'
theorem take_spec (w : World) (mean : ExcName → Option Value) (mg mb : Str → Option Value) (src : Addr) (o : Obj) (top : Int) (tt : Tok) (news : List (Addr × Obj))
    (ho : SrcOk o) (ht : 1 ≤ top) (ht2 : top ≤ 8) (hoff : OwnOff news [src]) :
    Spec w mean mg mb 85 2 [.ref src, .int top tt] ((src, o) :: news) (TakeOut src top news) := by
  unfold Spec
  w_top off
  k_fill
  intro dp un gd cn cs a ccd cl outer A₀ base h₀ L m s Q E B F X N T' hk hd hu hret
  obtain ⟨x, t1, y, t2, n, rfl, hx, hy, hy2⟩ := ho
  refine wpAny_call ?_
  k_dflt cell_enter
  have mk := kstMark
  rename_i g' L' h' FG' F' N' B' X' T''
  refine rebase [("source", .ref src), ("top", .int top tt)] F' (by kst_all) ?_
  clear F'
  intro u F'
  dsimp only [kstB] at F'
  walk_at "GO"
  · have q := fmod_top x ht
    exact hret _ _ _ _ (by assumption) (by assumption) ⟨_, _, _, rfl, q.1, q.2, rfl, ⟨_, _, _, _, _, rfl, fdiv_top hx ht, hy, hy2⟩⟩
  · have q := fmod_top ((((y * 39373 + 7).fmod 2147483647 * (y * 39373 + 7).fmod 2147483647).fmod 2147483629).fdiv 32) ht
    have q2 := fmod_ok (y * 39373 + 7)
    exact hret _ _ _ _ (by assumption) (by assumption) ⟨_, _, _, rfl, q.1, q.2, rfl, ⟨_, _, _, _, _, rfl, hx, q2.1, q2.2⟩⟩

local macro_rules | `(tactic| walk_at "USE") => `(tactic| ((case k1 => k_asm); (case k2 => k_asm); (case k3 => k_asm); (case k4 => k_asm); (case k5 => k_asm); (case kK => first | exact rfl | assumption); (case kd => ktr_room); (case ku => ktr_units)))
local macro_rules | `(tactic| walk_at "call builtin:len") => `(tactic| (k_here; (with_reducible show wpAny _ _ (call (Value.builtin "len") [Value.ref _]) _ _ _); k_dflt (refine' len_list ?kl ?kf ?_; (case kl => exact News.isList (by k_asm) (by k_mem)); (case kf => (simp only [List.size_toArray]; omega)))))

def OneOut (src : Addr) (vs : List Value) (news : List (Addr × Obj)) (v : Value) (news' : List (Addr × Obj)) : Prop := ∃ (i : Nat) (o' : Obj), vs[i]? = some v ∧ news' = (src, o') :: news ∧ SrcOk o'
theorem one_spec (w : World) (mean : ExcName → Option Value) (mg mb : Str → Option Value) (src th : Addr) (o : Obj) (vs : List Value) (n : Nat) (news : List (Addr × Obj))
    (ho : SrcOk o) (h1 : 1 ≤ vs.length) (h2 : vs.length ≤ 8) (hth : (th, listOf vs.toArray n) ∈ news) (hoff : OwnOff news [src]) :
    Spec w mean mg mb 92 4 [.ref src, .ref th] ((src, o) :: news) (OneOut src vs news) := by
  unfold Spec
  w_top off
  k_fill
  intro dp un gd cn cs a ccd cl outer A₀ base h₀ L m s Q E B F X N T' hk hd hu hret
  refine wpAny_call ?_
  k_dflt cell_enter
  have mk := kstMark
  rename_i g' L' h' FG' F' N' B' X' T''
  refine rebase [("source", .ref src), ("things", .ref th)] F' (by kst_all) ?_
  clear F'
  intro u F'
  dsimp only [kstB] at F'
  walk_at "GO"
  k_dflt (refine' Spec.use (take_spec _ _ _ _ src o _ _ news ho (by simp only [List.size_toArray]; omega) (by simp only [List.size_toArray]; omega) hoff) ?k1 ?k2 ?k3 ?k4 ?k5 ?kK ?kd ?ku ?_; (walk_at "USE"))
  intro v2 h2 tk2 news2 F2 N2 hO2
  (try k_sweep)
  (try dsimp only)
  obtain ⟨d, td, o', rfl, hd0, hd1, rfl, ho'⟩ := hO2
  rw [List.size_toArray] at hd1
  have hlt : d.toNat < vs.length := by omega
  have hv : vs.toArray[d.toNat]? = some vs[d.toNat] := by simp [hlt]
  have hm : (th, listOf vs.toArray n) ∈ (src, o') :: news := .tail _ hth
  k_dflt (refine' item_list (News.isList N2 hm) hd0 (by omega) hv ?_)
  walk_at "GO"
  exact hret _ _ _ _ (by assumption) (by assumption) ⟨d.toNat, o', by simp [hlt], rfl, ho'⟩
end Mine

end PartTA

section PartLP
open PySem PySem.W PyProof.Rows
namespace Mine
set_option maxRecDepth 100000
set_option maxHeartbeats 4000000
local macro_rules | `(tactic| walk_at "GO") => `(tactic| repeat' (first | (k_unfold; (try dsimp only)) | (walk1; (try dsimp only)) | (leave1; walk_say "STEP leave1"; try dsimp only) | fail "no step"))
local macro_rules | `(tactic| k_mem) => `(tactic| ((show (_ : Addr × Obj) ∈ (_ : List (Addr × Obj))); assumption))
local macro_rules | `(tactic| walk_at "USE") => `(tactic| ((case k1 => k_asm); (case k2 => k_asm); (case k3 => k_asm); (case k4 => first | k_asm | exact news_swap (by k_asm)); (case k5 => k_asm); (case kK => first | exact rfl | assumption); (case kd => ktr_room); (case ku => ktr_units)))

/-- the text of a part that the law draws -/
def Low (c : Nat) : Prop := c = 97 ∨ c = 98 ∨ c = 100 ∨ c = 65 ∨ c = 48
def High (c : Nat) : Prop := c = 97 ∨ c = 99 ∨ c = 101 ∨ c = 90 ∨ c = 57
theorem low_of {t1 t2 t3 t4 t5 : Tok} {i : Nat} {v : Value} (h : [Value.str (Str.ofString "a") t1, .str (Str.ofString "b") t2, .str (Str.ofString "d") t3, .str (Str.ofString "A") t4, .str (Str.ofString "0") t5][i]? = some v) : ∃ c t, v = .str (ch c) t ∧ Low c := by
  match i, h with
  | 0, h => exact ⟨97, t1, by rw [← Option.some.inj h]; rfl, .inl rfl⟩
  | 1, h => exact ⟨98, t2, by rw [← Option.some.inj h]; rfl, .inr (.inl rfl)⟩
  | 2, h => exact ⟨100, t3, by rw [← Option.some.inj h]; rfl, .inr (.inr (.inl rfl))⟩
  | 3, h => exact ⟨65, t4, by rw [← Option.some.inj h]; rfl, .inr (.inr (.inr (.inl rfl)))⟩
  | 4, h => exact ⟨48, t5, by rw [← Option.some.inj h]; rfl, .inr (.inr (.inr (.inr rfl)))⟩
  | n + 5, h => simp at h
theorem high_of {t1 t2 t3 t4 t5 : Tok} {i : Nat} {v : Value} (h : [Value.str (Str.ofString "a") t1, .str (Str.ofString "c") t2, .str (Str.ofString "e") t3, .str (Str.ofString "Z") t4, .str (Str.ofString "9") t5][i]? = some v) : ∃ c t, v = .str (ch c) t ∧ High c := by
  match i, h with
  | 0, h => exact ⟨97, t1, by rw [← Option.some.inj h]; rfl, .inl rfl⟩
  | 1, h => exact ⟨99, t2, by rw [← Option.some.inj h]; rfl, .inr (.inl rfl)⟩
  | 2, h => exact ⟨101, t3, by rw [← Option.some.inj h]; rfl, .inr (.inr (.inl rfl))⟩
  | 3, h => exact ⟨90, t4, by rw [← Option.some.inj h]; rfl, .inr (.inr (.inr (.inl rfl)))⟩
  | 4, h => exact ⟨57, t5, by rw [← Option.some.inj h]; rfl, .inr (.inr (.inr (.inr rfl)))⟩
  | n + 5, h => simp at h
/-- a part's text and its two ends -/
structure Item where
  t : List Nat
  lo : Nat
  hi : Nat
def Basic (x : Item) : Prop := (x.t = [x.lo] ∧ x.hi = x.lo ∧ (Low x.lo ∨ x.lo = 95)) ∨ (x.t = [x.lo, 45, x.hi] ∧ Low x.lo ∧ High x.hi)

/-- a pair of signs as a list; a part as a list -/
def PairL (led : List (Addr × Obj)) (v : Value) (lo hi : Nat) : Prop := ∃ q t1 t2 n, v = .ref q ∧ (q, listOf #[.str (ch lo) t1, .str (ch hi) t2] n) ∈ led
def ItemIn (led : List (Addr × Obj)) (v : Value) (x : Item) : Prop := ∃ p T tt q n, v = .ref p ∧ chars T = x.t ∧ (p, listOf #[.str T tt, q] n) ∈ led ∧ PairL led q x.lo x.hi
theorem PairL.mono {led led' : List (Addr × Obj)} {v : Value} {lo hi : Nat} (h : PairL led v lo hi) (s : ∀ p ∈ led, p ∈ led') : PairL led' v lo hi := by
  obtain ⟨q, t1, t2, n, e, m⟩ := h
  exact ⟨q, t1, t2, n, e, s _ m⟩
theorem ItemIn.mono {led led' : List (Addr × Obj)} {v : Value} {x : Item} (h : ItemIn led v x) (s : ∀ p ∈ led, p ∈ led') : ItemIn led' v x := by
  obtain ⟨p, T, tt, q, n, e, a, m, b⟩ := h
  exact ⟨p, T, tt, q, n, e, a, s _ m, b.mono s⟩
def PartLOut (src : Addr) (news : List (Addr × Obj)) (v : Value) (news' : List (Addr × Obj)) : Prop :=
  ∃ x o' tl, Basic x ∧ SrcOk o' ∧ news' = (src, o') :: (tl ++ news) ∧ FreshTl news tl ∧ (∀ q ∈ tl, src < q.1) ∧ ItemIn tl v x
theorem chars_ch3 (lo hi : Nat) : chars (ch lo ++ Str.ofString "-" ++ ch hi) = [lo, 45, hi] := rfl

theorem part_spec (w : World) (mean : ExcName → Option Value) (mg mb : Str → Option Value) (src : Addr) (o : Obj) (news : List (Addr × Obj))
    (ho : SrcOk o) (hoff : OwnOff news [src]) :
    Spec w mean mg mb 99 7 [.ref src] ((src, o) :: news) (PartLOut src news) := by
  unfold Spec
  w_top off
  k_fill
  intro dp un gd cn cs a ccd cl outer A₀ base h₀ L m s Q E B F X N T' hk hd hu hret
  refine wpAny_call ?_
  k_dflt cell_enter
  have mk := kstMark
  rename_i g' L' h' FG' F' N' B' X' T''
  refine rebase [("source", .ref src)] F' (by kst_all) ?_
  clear F'
  intro u F'
  dsimp only [kstB] at F'
  walk_at "GO"
  rename src < _ ∧ AllLt _ news => hl
  k_dflt (refine' Spec.use (one_spec _ _ _ _ src _ o _ _ (_ :: news) ho ?n1 ?n2 (.head _) (off_cons (Nat.ne_of_gt hl.1) hoff)) ?k1 ?k2 ?k3 ?k4 ?k5 ?kK ?kd ?ku ?_; (walk_at "USE"); (case n1 => exact Nat.le_of_ble_eq_true rfl); (case n2 => exact Nat.le_of_ble_eq_true rfl))
  intro v2 h2 tk2 news2 F2 N2 hO2
  (try k_sweep)
  (try dsimp only)
  obtain ⟨i2, o2, hv2, rfl, ho2⟩ := hO2
  obtain ⟨lo, t2, rfl, hlo⟩ := low_of hv2
  replace N2 := news_drop2 N2
  clear hv2 hl
  walk_at "GO"
  rename src < _ ∧ AllLt _ news => hl
  k_dflt (refine' Spec.use (one_spec _ _ _ _ src _ o2 _ _ (_ :: news) ho2 ?n1 ?n2 (.head _) (off_cons (Nat.ne_of_gt hl.1) hoff)) ?k1 ?k2 ?k3 ?k4 ?k5 ?kK ?kd ?ku ?_; (walk_at "USE"); (case n1 => exact Nat.le_of_ble_eq_true rfl); (case n2 => exact Nat.le_of_ble_eq_true rfl))
  intro v3 h3 tk3 news3 F3 N3 hO3
  (try k_sweep)
  (try dsimp only)
  obtain ⟨i3, o3, hv3, rfl, ho3⟩ := hO3
  obtain ⟨hi, t3, rfl, hhi⟩ := high_of hv3
  replace N3 := news_drop2 N3
  clear hv3 hl
  walk_at "GO"
  rename src < _ ∧ AllLt _ news => hl
  k_dflt (refine' Spec.use (take_spec _ _ _ _ src o3 2 _ (_ :: news) ho3 (by decide) (by decide) (off_cons (Nat.ne_of_gt hl.1) hoff)) ?k1 ?k2 ?k3 ?k4 ?k5 ?kK ?kd ?ku ?_; (walk_at "USE"))
  intro v4 h4 tk4 news4 F4 N4 hO4
  (try k_sweep)
  (try dsimp only)
  obtain ⟨d, t4, o4, rfl, hd0, hd1, rfl, ho4⟩ := hO4
  replace N4 := news_drop2 N4
  clear hl
  walk_at "GO"
  · rename_i p' _ l1 q' _ _ _ l2 kF kN _ _
    refine hret _ _ _ ((src, o4) :: ([(q', _), (p', _)] ++ news)) kF (news_rot kN) ⟨⟨[lo], lo, lo⟩, o4, [(q', _), (p', _)], .inl ⟨rfl, rfl, .inl hlo⟩, ho4, rfl, (FreshTl.nil.cons (kst_ltOf l1.2)).cons (kst_ltOf l2.2.2), ?_, ⟨q', ch lo, _, .ref p', _, rfl, rfl, .head _, ⟨p', _, _, _, rfl, .tail _ (.head _)⟩⟩⟩
    intro q hq
    rcases List.mem_cons.mp hq with rfl | hq
    · exact l2.2.1
    · rw [List.mem_singleton.mp hq]; exact l1.1
  · rename_i p' _ l1 q' _ _ _ l2 kF kN _ _
    refine hret _ _ _ ((src, o4) :: ([(q', _), (p', _)] ++ news)) kF (news_rot kN) ⟨⟨[lo, 45, hi], lo, hi⟩, o4, [(q', _), (p', _)], .inr ⟨rfl, hlo, hhi⟩, ho4, rfl, (FreshTl.nil.cons (kst_ltOf l1.2)).cons (kst_ltOf l2.2.2), ?_, ⟨q', _, _, .ref p', _, rfl, chars_ch3 lo hi, .head _, ⟨p', _, _, _, rfl, .tail _ (.head _)⟩⟩⟩
    intro q hq
    rcases List.mem_cons.mp hq with rfl | hq
    · exact l2.2.1
    · rw [List.mem_singleton.mp hq]; exact l1.1
end Mine

end PartLP

section PartCM
open PySem PySem.W PyProof.Rows PySem.Spec PySem.SeqAt
namespace Mine

theorem lay_str (T : Str) (h : ∀ c ∈ chars T, c < 128) : PyData.canLay0 (.str T) = true := by
  unfold PyData.canLay0 PyData.strOk
  rw [Array.all_eq_true']
  intro c hc
  have := h c (by simpa [chars] using hc)
  simp; omega
theorem lay_ch {c : Nat} (h : c < 128) : PyData.canLay0 (.str (ch c)) = true := lay_str _ fun d hd => by
  have e : d = c := by simpa [chars, ch] using hd
  omega
/-- data that two lists may be compared by -/
def Tame (d : PyData) : Prop := d.canLay0 = true ∧ d.depth ≤ 10
theorem tame_str {T : Str} (h : ∀ c ∈ chars T, c < 128) : Tame (.str T) := ⟨lay_str T h, by simp [PyData.depth]⟩
theorem lay_all : ∀ {ds : List PyData}, (∀ d ∈ ds, Tame d) → PyData.canLayAll0 ds = true
  | [], _ => rfl
  | d :: r, h => by
    unfold PyData.canLayAll0
    rw [(h d (.head _)).1, lay_all fun x hx => h x (.tail _ hx)]; rfl
theorem depth_all : ∀ {ds : List PyData}, (∀ d ∈ ds, Tame d) → PyData.depthAll ds ≤ 10
  | [], _ => Nat.zero_le _
  | d :: r, h => by
    unfold PyData.depthAll
    exact Nat.max_le.mpr ⟨(h d (.head _)).2, depth_all fun x hx => h x (.tail _ hx)⟩
theorem shaped_list {ds : List PyData} (h : ∀ d ∈ ds, Tame d) : shaped (.list ds) = true := by
  have h1 := lay_all h
  have h2 := depth_all h
  unfold shaped
  rw [Bool.and_eq_true]
  refine ⟨by unfold PyData.canLay0; exact h1, decide_eq_true ?_⟩
  unfold PyData.depth
  omega

/-- what a value on the ledger is as data -/
def Rd (led : List (Addr × Obj)) (v : Value) (d : PyData) : Prop := ∀ g L h, News g L h led → ∃ as, Reads h v d as
def RdAll (led : List (Addr × Obj)) : List Value → List PyData → Prop
  | [], [] => True
  | v :: vs, d :: ds => Rd led v d ∧ RdAll led vs ds
  | _, _ => False
theorem RdAll.reads {led : List (Addr × Obj)} {g : Heap} {L : Addr} {h : Heap} (N : News g L h led) : ∀ {vs : List Value} {ds : List PyData}, RdAll led vs ds → ∃ as, ReadsAll h vs ds as
  | [], [], _ => ⟨_, .nil⟩
  | [], _ :: _, x => x.elim
  | _ :: _, [], x => x.elim
  | _ :: _, _ :: _, x => by
    obtain ⟨as, h1⟩ := x.1 g L h N
    obtain ⟨bs, h2⟩ := RdAll.reads N x.2
    exact ⟨_, .cons h1 h2⟩
theorem RdAll.nil_iff {led : List (Addr × Obj)} {vs : List Value} {ds : List PyData} (h : RdAll led vs ds) : vs.isEmpty = ds.isEmpty := by
  cases vs with
  | nil => cases ds with
    | nil => rfl
    | cons _ _ => exact h.elim
  | cons _ _ => cases ds with
    | nil => exact h.elim
    | cons _ _ => rfl
theorem Rd.str {led : List (Addr × Obj)} {T : Str} {t : Tok} : Rd led (.str T t) (.str T) := fun _ _ _ _ => ⟨_, .str T t⟩
theorem Rd.list {led : List (Addr × Obj)} {a : Addr} {vs : List Value} {n : Nat} {ds : List PyData} (hm : (a, listOf vs.toArray n) ∈ led) (hr : RdAll led vs ds) : Rd led (.ref a) (.list ds) := fun g L h N => by
  obtain ⟨as, r⟩ := hr.reads N
  exact ⟨_, reads_list_at (N.get hm) rfl rfl (by simpa using r)⟩
theorem Rd.mono {led led' : List (Addr × Obj)} {v : Value} {d : PyData} (h : Rd led v d) (s : ∀ p ∈ led, p ∈ led') : Rd led' v d := fun g L hp N => h g L hp fun p hq => N p (s p hq)
theorem RdAll.mono {led led' : List (Addr × Obj)} (s : ∀ p ∈ led, p ∈ led') : ∀ {vs : List Value} {ds : List PyData}, RdAll led vs ds → RdAll led' vs ds
  | [], [], _ => trivial
  | [], _ :: _, x => x.elim
  | _ :: _, [], x => x.elim
  | _ :: _, _ :: _, x => ⟨x.1.mono s, RdAll.mono s x.2⟩
theorem RdAll.snoc {led : List (Addr × Obj)} {v : Value} {d : PyData} (hv : Rd led v d) : ∀ {vs : List Value} {ds : List PyData}, RdAll led vs ds → RdAll led (vs ++ [v]) (ds ++ [d])
  | [], [], _ => ⟨hv, trivial⟩
  | [], _ :: _, x => x.elim
  | _ :: _, [], x => x.elim
  | _ :: _, _ :: _, x => ⟨x.1, x.2.snoc hv⟩
theorem tame_snoc {ds : List PyData} {d : PyData} (h : ∀ x ∈ ds, Tame x) (hd : Tame d) : ∀ x ∈ ds ++ [d], Tame x := fun x hx => by
  rcases List.mem_append.mp hx with hx | hx
  · exact h x hx
  · rw [List.mem_singleton.mp hx]; exact hd
theorem eqv_nil (ds : List PyData) : PyData.eqv (.list ds) (.list []) = ds.isEmpty := by
  cases ds <;> simp [PyData.eqv, PyData.eqvAll]
section
variable {prog : Program} {w : World} {A : Around} {E : Value → Shared → Prop} {s : Shared} {g : Heap} {L a b : Addr} {vs : List Value} {n k : Nat} {led : List (Addr × Obj)} {ds : List PyData} {Q : Value → Shared → Prop}
theorem ne_nil (N : News g L s.heap led) (ha : (a, listOf vs.toArray n) ∈ led) (hb : (b, listOf #[] k) ∈ led) (hr : RdAll led vs ds) (ht : ∀ d ∈ ds, Tame d) (hu : A.units + 64 < cLine) (h : Q (.bool (!vs.isEmpty)) s) :
    wpAny (model prog w) A (compareOp .NotEq (.ref a) (.ref b)) Q E s := by
  obtain ⟨as, r⟩ := Rd.list ha hr g L _ N
  obtain ⟨bs, r2⟩ := Rd.list (vs := []) (ds := []) hb trivial g L _ N
  refine ne_dataH r r2 (shaped_list ht) rfl hu ?_
  rw [eqv_nil, ← hr.nil_iff]; exact h
theorem eq_nil (N : News g L s.heap led) (ha : (a, listOf vs.toArray n) ∈ led) (hb : (b, listOf #[] k) ∈ led) (hr : RdAll led vs ds) (ht : ∀ d ∈ ds, Tame d) (hu : A.units + 64 < cLine) (h : Q (.bool vs.isEmpty) s) :
    wpAny (model prog w) A (compareOp .Eq (.ref a) (.ref b)) Q E s := by
  obtain ⟨as, r⟩ := Rd.list ha hr g L _ N
  obtain ⟨bs, r2⟩ := Rd.list (vs := []) (ds := []) hb trivial g L _ N
  refine eq_dataH r r2 (shaped_list ht) rfl hu ?_
  rw [eqv_nil, ← hr.nil_iff]; exact h
end
/-- a pair, a part as data -/
def datP (lo hi : Nat) : PyData := .list [.str (ch lo), .str (ch hi)]
theorem PairL.rd {led : List (Addr × Obj)} {v : Value} {lo hi : Nat} (h : PairL led v lo hi) : Rd led v (datP lo hi) := by
  obtain ⟨q, t1, t2, n, rfl, hm⟩ := h
  exact Rd.list hm ⟨Rd.str, Rd.str, trivial⟩
theorem tame_pair {lo hi : Nat} (h1 : lo < 128) (h2 : hi < 128) : Tame (datP lo hi) := by
  refine ⟨?_, ?_⟩
  · simp only [datP, PyData.canLay0, PyData.canLayAll0]
    have a := lay_ch h1
    have b := lay_ch h2
    simp only [PyData.canLay0] at a b
    simp [a, b]
  · simp [datP, PyData.depth, PyData.depthAll]
end Mine

end PartCM

section PartLT
open PySem PySem.W PyProof.Rows
namespace Mine
set_option maxRecDepth 100000
set_option maxHeartbeats 4000000
local macro_rules | `(tactic| walk_at "GO") => `(tactic| repeat' (first | (k_unfold; (try dsimp only)) | (walk1; (try dsimp only)) | (leave1; walk_say "STEP leave1"; try dsimp only) | fail "no step"))
local macro_rules | `(tactic| k_mem) => `(tactic| ((show (_ : Addr × Obj) ∈ (_ : List (Addr × Obj))); assumption))
local macro_rules | `(tactic| walk_at "USE") => `(tactic| ((case k1 => k_asm); (case k2 => k_asm); (case k3 => k_asm); (case k4 => first | k_asm | exact news_swap (by k_asm)); (case k5 => k_asm); (case kK => first | exact rfl | assumption); (case kd => ktr_room); (case ku => ktr_units)))
local macro_rules | `(tactic| walk_at "ENTERC") => `(tactic| (refine' code_defC ?k1 ?k2 ?k3 ?k4 ?k5 ?kA ?kF ?kK ?k6 ?k7 ?k8 ?k9 ?kB ?kD ?_ ?c2 ?c3 ?c4; (case kA => exact rfl); (case kF => exact rfl); (case kK => first | exact rfl | assumption); (case k1 => k_asm); (case k2 => k_asm); (case k3 => k_asm); (case k4 => k_asm); (case k5 => k_asm); (case k6 => k_is); (case k7 => k_is); (case k8 => ktr_room); (case k9 => first | exact BindsTo.of_eq rfl | exact binds_K (by k_in) rfl (by k_is) rfl rfl rfl); (case kB => exact rfl); (case kD => decide +kernel); (case c2 => exact rfl); (case c3 => exact rfl); (case c4 => exact rfl); k_whole; intro g' L' h' tk' cells' FG' F' N' Y' B' X' T' l1; k_cells Y'; (try simp only [List.cons_append, List.nil_append] at N'); (try dsimp only); (try k_lift B'); (try k_fold)))
local macro_rules | `(tactic| walk_at "subscriptTail Name Constant ref int") => `(tactic| (k_here; k_dflt (first
  | ((with_reducible show wpAny _ _ (subscriptTail _ _ (Value.ref _) (Value.int 0 _)) _ _ _); refine' item0 ?kl ?_; (case kl => exact News.isList (by k_asm) (by k_mem)); k_whole)
  | ((with_reducible show wpAny _ _ (subscriptTail _ _ (Value.ref _) (Value.int 1 _)) _ _ _); refine' item1 ?kl ?_; (case kl => exact News.isList (by k_asm) (by k_mem)); k_whole)
  | ((with_reducible show wpAny _ _ (subscriptTail _ _ (Value.ref _) (Value.int 2 _)) _ _ _); refine' item2 ?kl ?_; (case kl => exact News.isList (by k_asm) (by k_mem)); k_whole))))

local macro_rules | `(tactic| walk_at "eval ListComp") => `(tactic| (k_here; k_dflt (first
  | refine LCt.ListComp_T (F₀ := by k_asm) (by with_unfolding_all rfl) (by decide) (by rfl) (by decide) (by rfl) ?_
  | refine LCg.ListComp_U (F₀ := by k_asm) (by with_unfolding_all rfl) (by decide) (by rfl) (by decide) (by rfl) ?_)))

def PairsL (led : List (Addr × Obj)) : List Value → List (Nat × Nat) → Prop
  | [], [] => True
  | v :: vs, p :: ps => PairL led v p.1 p.2 ∧ PairsL led vs ps
  | _, _ => False
theorem PairsL.mono {led led' : List (Addr × Obj)} (s : ∀ q ∈ led, q ∈ led') : ∀ {vs : List Value} {ps : List (Nat × Nat)}, PairsL led vs ps → PairsL led' vs ps
  | [], [], _ => trivial
  | [], _ :: _, h => h.elim
  | _ :: _, [], h => h.elim
  | _ :: _, _ :: _, h => ⟨h.1.mono s, h.2.mono s⟩
theorem PairsL.length {led : List (Addr × Obj)} : ∀ {vs : List Value} {ps : List (Nat × Nat)}, PairsL led vs ps → vs.length = ps.length
  | [], [], _ => rfl
  | [], _ :: _, h => h.elim
  | _ :: _, [], h => h.elim
  | _ :: _, _ :: _, h => congrArg (· + 1) h.2.length
theorem PairsL.get {led : List (Addr × Obj)} : ∀ {vs : List Value} {ps : List (Nat × Nat)} {i : Nat} {v : Value}, PairsL led vs ps → vs[i]? = some v → ∃ p, ps[i]? = some p ∧ PairL led v p.1 p.2
  | [], _, _, _, _, h => by simp at h
  | _ :: _, [], _, _, h, _ => h.elim
  | x :: _, p :: _, 0, v, h, e => by
    have e' : x = v := by simpa using e
    subst e'
    exact ⟨p, rfl, h.1⟩
  | _ :: _, _ :: _, i + 1, _, h, e => by
    obtain ⟨p, a, b⟩ := h.2.get (i := i) (by simpa using e)
    exact ⟨p, by simpa using a, b⟩

theorem ltakes_spec (w : World) (mean : ExcName → Option Value) (mg mb : Str → Option Value) (lt pl : Addr) (T : Str) (tT : Tok) (neg : Bool) (n k : Nat) (refs : Array Value) (prs : List (Nat × Nat)) (e : Nat) (te : Tok) (news : List (Addr × Obj))
    (hm : (lt, listOf #[.str T tT, .bool neg, .ref pl] n) ∈ news) (hm2 : (pl, listOf refs k) ∈ news) (hps : PairsL news refs.toList prs) (hb : ∀ p ∈ prs, p.1 < 128 ∧ p.2 < 128) (hsz : refs.size ≤ 1000) :
    Spec w mean mg mb 109 10 [.ref lt, .str (ch e) te] news (fun v news' => v = .bool (takesD (.lot neg prs) e) ∧ news' = news) := by
  unfold Spec
  w_top off
  k_fill
  intro dp un gd cn cs a ccd cl outer A₀ base h₀ L m s Q E B F X N T' hk hd hu hret
  refine wpAny_call ?_
  k_dflt (walk_at "ENTERC")
  have mk := kstMark
  rename_i g' L' h' tk0 FG' F' B' X' T'' l1 oc hoc N'
  have hoc' : oc.data = .cell (some (.str (ch e) te)) := hoc
  clear hoc
  refine rebase [("lot", .ref lt)] F' (by kst_all) ?_
  clear F'
  intro u F'
  dsimp only [kstB] at F'
  walk_at "GO"
  refine LCt.CompSrcT.ledger (its := refs) rfl F' N' (.tail _ hm2) (by rw [PySem.sizeLine_eq]; omega) ?_
  intro g1
  refine comp_invT (σ := Unit) (fun _ => (L' + 1, oc) :: news) (fun i ys _ => (∃ ds, RdAll news ys ds ∧ ∀ d ∈ ds, Tame d) ∧ ys.isEmpty = !((prs.take i).any (inPair e))) ?_ ?_ () ⟨⟨[], trivial, fun _ h => nomatch h⟩, by simp⟩
  · intro i ys _ v J oI C oC D m₂ h tk E' hi hI hv hC hx F₂ N₂ off ne
    obtain ⟨⟨ds, hrd, htm⟩, hem⟩ := hI
    obtain ⟨p, hp, hpl⟩ := hps.get (i := i) (v := v) (by simpa using hv)
    have hpl' := hpl
    obtain ⟨q, q1, q2, nq, rfl, hq⟩ := hpl'
    (try k_sweep)
    walk_at "GO"
    · have hb' := hb p (List.mem_of_getElem? hp)
      refine LCg.CompEnd.intro (by assumption) N₂ ((L' + 1, oc) :: news) (fun _ h => h) off (.inr ⟨_, .tail _ hm2, rfl, _, rfl⟩) ⟨(), rfl, ⟨ds ++ [datP p.1 p.2], hrd.snoc hpl.rd, tame_snoc htm (tame_pair hb'.1 hb'.2)⟩, ?_⟩
      rw [any_take _ hp, yes_pair (by omega) (by omega), Bool.or_true]
      cases ys <;> rfl
    · refine LCg.CompEnd.intro (by assumption) N₂ ((L' + 1, oc) :: news) (fun _ h => h) off (.inr ⟨_, .tail _ hm2, rfl, _, rfl⟩) ⟨(), rfl, ⟨ds, hrd, htm⟩, ?_⟩
      rw [any_take _ hp, not_pair (by omega), Bool.or_false]
      exact hem
    · refine LCg.CompEnd.intro (by assumption) N₂ ((L' + 1, oc) :: news) (fun _ h => h) off (.inr ⟨_, .tail _ hm2, rfl, _, rfl⟩) ⟨(), rfl, ⟨ds, hrd, htm⟩, ?_⟩
      rw [any_take _ hp, not_pair (by omega), Bool.or_false]
      exact hem
  · intro ys _ hI
    obtain ⟨⟨ds, hrd, htm⟩, hem⟩ := hI
    rw [any_whole _ (show refs.size = prs.length by rw [← hps.length, Array.length_toList])] at hem
    intro D h tk F₂ N₂ off
    (try k_sweep)
    (try dsimp only)
    walk_at "GO"
    k_dflt (refine' ne_nil (vs := ys) ?N ?ha ?hb ?hr htm (show un + 3 + 64 < cLine by omega) ?_; (case N => k_asm); (case ha => exact .tail _ (.head _)); (case hb => exact .head _); (case hr => exact hrd.mono fun _ h => .tail _ (.tail _ (.tail _ h))))
    walk_at "GO"
    refine hret _ _ _ news (by assumption) (fun p hp => (‹News h₀ L _ _› : News h₀ L _ _) p (.tail _ (.tail _ (.tail _ hp)))) ⟨?_, rfl⟩
    rw [hem, Bool.not_not]; rfl
end Mine

end PartLT

section PartPL
open PySem PySem.W PyProof.Rows
namespace Mine
/-- a list of drawn parts' text, its pairs -/
def textOf (xs : List Item) : List Nat := (xs.map Item.t).flatten
def prsOf (xs : List Item) : List (Nat × Nat) := xs.map fun x => (x.lo, x.hi)
def i93 : Item := ⟨[93], 93, 93⟩
def i45 : Item := ⟨[45], 45, 45⟩
def i95 : Item := ⟨[95], 95, 95⟩
/-- is every part drawn by _law_part (or the low line) -/
def AllB (xs : List Item) : Prop := ∀ x ∈ xs, Basic x
theorem Low.ok {c : Nat} (h : Low c) : c ≠ 93 ∧ c ≠ 94 ∧ c ≠ 45 ∧ c ≠ 42 ∧ c ≠ 63 ∧ c < 128 := by
  rcases h with rfl | rfl | rfl | rfl | rfl <;> decide
theorem High.ok {c : Nat} (h : High c) : c ≠ 93 ∧ c ≠ 94 ∧ c ≠ 45 ∧ c ≠ 42 ∧ c ≠ 63 ∧ c < 128 := by
  rcases h with rfl | rfl | rfl | rfl | rfl <;> decide
theorem Low.ok' {c : Nat} (h : Low c ∨ c = 95) : c ≠ 93 ∧ c ≠ 94 ∧ c ≠ 45 ∧ c ≠ 42 ∧ c ≠ 63 ∧ c < 128 := by
  rcases h with h | rfl
  · exact h.ok
  · decide
/-- no sign that ends the lot stands in it -/
theorem lotGo_open : ∀ (n : Nat) (l : List Nat) (acc : List (Nat × Nat)), l.length ≤ n → (∀ c ∈ l, c ≠ 93) → lotGo l acc = none
  | _, [], acc, _, _ => lotGo_nil acc
  | 0, _ :: _, _, h, _ => by simp at h
  | n + 1, c :: r, acc, hn, h => by
    rw [lotGo.eq_def]
    have hc := h c (.head _)
    simp only [hc, if_false]
    split
    · rename_i d r'
      have hd := h d (.tail _ (.tail _ (.head _)))
      simp only [hd, if_false]
      exact lotGo_open n r' _ (by simp only [List.length_cons] at hn; omega) fun x hx => h x (.tail _ (.tail _ (.tail _ hx)))
    · exact lotGo_open n _ _ (by simp only [List.length_cons] at hn; omega) fun x hx => h x (.tail _ hx)
/-- what may stand behind a part: no minus but one that ends -/
def Behind (l : List Nat) : Prop := ∀ d r', l = 45 :: d :: r' → d = 93
theorem textOf_cons (x : Item) (xs : List Item) : textOf (x :: xs) = x.t ++ textOf xs := rfl
theorem behind_text {xs : List Item} (h : AllB xs) {l : List Nat} (hl : Behind l) : Behind (textOf xs ++ l) := by
  cases xs with
  | nil => exact hl
  | cons x xs =>
    intro d r' e
    rw [textOf_cons] at e
    rcases h x (.head _) with ⟨ht, _, hlo⟩ | ⟨ht, hlo, _⟩
    · rw [ht] at e
      simp only [List.cons_append, List.nil_append, List.append_assoc] at e
      injection e with e1 _
      exact absurd e1 (Low.ok' hlo).2.2.1
    · rw [ht] at e
      simp only [List.cons_append, List.nil_append, List.append_assoc] at e
      injection e with e1 _
      exact absurd e1 hlo.ok.2.2.1
theorem lotGo_text {l : List Nat} (hl : Behind l) : ∀ {xs : List Item} (acc : List (Nat × Nat)), AllB xs → lotGo (textOf xs ++ l) acc = lotGo l (acc ++ prsOf xs)
  | [], acc, _ => by rw [show prsOf [] = [] from rfl, List.append_nil]; rfl
  | x :: xs, acc, h => by
    have hxs : AllB xs := fun y hy => h y (.tail _ hy)
    have e : acc ++ prsOf (x :: xs) = (acc ++ [(x.lo, x.hi)]) ++ prsOf xs := by simp [prsOf]
    rw [e, ← lotGo_text hl _ hxs, textOf_cons]
    rcases h x (.head _) with ⟨ht, hhi, hlo⟩ | ⟨ht, hlo, hhi⟩
    · rw [ht, hhi]
      simp only [List.cons_append, List.nil_append, List.append_assoc]
      exact lotGo_one _ _ (Low.ok' hlo).1 (behind_text hxs hl)
    · rw [ht]
      simp only [List.cons_append, List.nil_append, List.append_assoc]
      exact lotGo_range _ _ hlo.ok.1 hhi.ok.1
theorem behind_end (r : List Nat) : Behind (93 :: r) := fun d r' e => by
  injection e with e1 _
  exact absurd e1 (by decide)
theorem behind_minus (r : List Nat) : Behind (45 :: 93 :: r) := fun d r' e => by
  injection e with _ e2
  injection e2 with e3 _
  exact e3.symm
theorem lotGo_minus (r : List Nat) (acc : List (Nat × Nat)) : lotGo (45 :: 93 :: r) acc = some (acc ++ [(45, 45)], r) := by
  rw [lotGo_one _ _ (by decide) (fun d r' e => by injection e with e1 _; exact absurd e1 (by decide)), lotGo_stop]

/-- the lists of parts that the law makes -/
inductive Drawn : List Item → Prop where
  | plain {xs} : AllB xs → xs ≠ [] → xs.length ≤ 3 → Drawn xs
  | minus {xs} : AllB xs → xs.length ≤ 3 → Drawn (xs ++ [i45])
  | first {xs} : AllB xs → xs.length ≤ 3 → Drawn (i93 :: xs)
  | both {xs} : AllB xs → xs.length ≤ 3 → Drawn (i93 :: (xs ++ [i45]))
  | two : Drawn [i45, i45]
theorem textOf_app (xs ys : List Item) : textOf (xs ++ ys) = textOf xs ++ textOf ys := by simp [textOf]
theorem prsOf_app (xs ys : List Item) : prsOf (xs ++ ys) = prsOf xs ++ prsOf ys := by simp [prsOf]
theorem AllB.signs {xs : List Item} (h : AllB xs) : ∀ c ∈ textOf xs, (c ≠ 93 ∧ c ≠ 94 ∧ c ≠ 42 ∧ c ≠ 63) ∧ c < 128 := by
  intro c hc
  obtain ⟨t, ht, hc⟩ := List.mem_flatten.mp hc
  obtain ⟨x, hx, rfl⟩ := List.mem_map.mp ht
  rcases h x hx with ⟨ht, _, hlo⟩ | ⟨ht, hlo, hhi⟩
  · rw [ht] at hc
    have q := Low.ok' hlo
    rw [List.mem_singleton.mp hc]
    exact ⟨⟨q.1, q.2.1, q.2.2.2.1, q.2.2.2.2.1⟩, q.2.2.2.2.2⟩
  · rw [ht] at hc
    have q := hlo.ok
    have q' := hhi.ok
    simp only [List.mem_cons, List.not_mem_nil, or_false] at hc
    rcases hc with rfl | rfl | rfl
    · exact ⟨⟨q.1, q.2.1, q.2.2.2.1, q.2.2.2.2.1⟩, q.2.2.2.2.2⟩
    · decide
    · exact ⟨⟨q'.1, q'.2.1, q'.2.2.2.1, q'.2.2.2.2.1⟩, q'.2.2.2.2.2⟩
theorem AllB.len {xs : List Item} (h : AllB xs) : (textOf xs).length ≤ 3 * xs.length := by
  induction xs with
  | nil => simp [textOf]
  | cons x xs ih =>
    have i := ih fun y hy => h y (.tail _ hy)
    rw [textOf_cons, List.length_append, List.length_cons]
    rcases h x (.head _) with ⟨ht, _, _⟩ | ⟨ht, _, _⟩
    · rw [ht]; simp only [List.length_cons, List.length_nil]; omega
    · rw [ht]; simp only [List.length_cons, List.length_nil]; omega
theorem AllB.head {xs : List Item} (h : AllB xs) (hne : xs ≠ []) (l : List Nat) : ∃ c r, textOf xs ++ l = c :: r ∧ c ≠ 93 ∧ c ≠ 94 := by
  cases xs with
  | nil => exact absurd rfl hne
  | cons x xs =>
    rw [textOf_cons]
    rcases h x (.head _) with ⟨ht, _, hlo⟩ | ⟨ht, hlo, _⟩
    · have q := Low.ok' hlo
      exact ⟨x.lo, textOf xs ++ l, by rw [ht]; rfl, q.1, q.2.1⟩
    · have q := hlo.ok
      exact ⟨x.lo, 45 :: x.hi :: (textOf xs ++ l), by rw [ht]; rfl, q.1, q.2.1⟩
theorem lotB_of {c : Nat} {r : List Nat} (neg : Bool) (h : c ≠ 93) : lotB neg (c :: r) = fin neg (lotGo (c :: r) []) := by
  unfold lotB fin
  rw [if_neg (by simpa using h)]
theorem lotB_end (neg : Bool) (r : List Nat) : lotB neg (93 :: r) = fin neg (lotGo r [(93, 93)]) := by
  unfold lotB fin
  rw [if_pos (by rfl)]; rfl
/-- the body of a lot, whatever stands behind -/
theorem drawn_ends {xs : List Item} (h : Drawn xs) (neg : Bool) (r : List Nat) : lotB neg (textOf xs ++ 93 :: r) = some (neg, prsOf xs, r) := by
  cases h with
  | plain h hne _ =>
    obtain ⟨c, r', e, h1, h2⟩ := h.head hne (93 :: r)
    rw [e, lotB_of neg h1, ← e, lotGo_text (behind_end r) _ h, lotGo_stop]; rfl
  | @minus ys h _ =>
    rw [textOf_app, prsOf_app, List.append_assoc]
    show lotB neg (textOf ys ++ (45 :: 93 :: r)) = _
    by_cases hne : ys = []
    · subst hne
      show lotB neg (45 :: 93 :: r) = _
      rw [lotB_of neg (by decide), lotGo_minus]; rfl
    · obtain ⟨c, r', e, h1, h2⟩ := h.head hne (45 :: 93 :: r)
      rw [e, lotB_of neg h1, ← e, lotGo_text (behind_minus r) _ h, lotGo_minus]; rfl
  | @first ys h _ =>
    show lotB neg (93 :: (textOf ys ++ 93 :: r)) = _
    rw [lotB_end, lotGo_text (behind_end r) _ h, lotGo_stop]; rfl
  | @both ys h _ =>
    rw [textOf_cons, textOf_app, List.append_assoc, List.append_assoc]
    show lotB neg (93 :: (textOf ys ++ (45 :: 93 :: r))) = _
    rw [lotB_end, lotGo_text (behind_minus r) _ h, lotGo_minus]
    simp [fin, prsOf, i93, i45]
  | two =>
    show lotB neg (45 :: 45 :: 93 :: r) = _
    rw [lotB_of neg (by decide), lotGo_one _ _ (by decide) (behind_minus r), lotGo_minus]; rfl

theorem drawn_head {xs : List Item} (h : Drawn xs) (l : List Nat) : ∃ c r, textOf xs ++ l = c :: r ∧ c ≠ 94 := by
  cases h with
  | plain h hne _ => obtain ⟨c, r, e, _, h2⟩ := h.head hne l; exact ⟨c, r, e, h2⟩
  | @minus ys h _ =>
    rw [textOf_app, List.append_assoc]
    by_cases hne : ys = []
    · subst hne; exact ⟨45, l, rfl, by decide⟩
    · obtain ⟨c, r, e, _, h2⟩ := h.head hne (textOf [i45] ++ l); exact ⟨c, r, e, h2⟩
  | first h _ => exact ⟨93, _, rfl, by decide⟩
  | both h _ => exact ⟨93, _, rfl, by decide⟩
  | two => exact ⟨45, _, rfl, by decide⟩
/-- the signs of a drawn lot: none but a first one ends it -/
theorem drawn_tail {xs : List Item} (h : Drawn xs) : (∃ c r, textOf xs = c :: r ∧ (∀ d ∈ r, d ≠ 93)) ∧ (∀ d ∈ textOf xs, d ≠ 42 ∧ d ≠ 63) ∧ (textOf xs).length ≤ 20 ∧ (∀ d ∈ textOf xs, d < 128) := by
  have m45 : ∀ {ys : List Item}, AllB ys → ∀ d ∈ textOf (ys ++ [i45]), (d ≠ 93 ∧ d ≠ 42 ∧ d ≠ 63) ∧ d < 128 := fun {ys} hy d hd => by
    rw [textOf_app] at hd
    rcases List.mem_append.mp hd with hd | hd
    · have q := hy.signs d hd; exact ⟨⟨q.1.1, q.1.2.2⟩, q.2⟩
    · have e : d = 45 := by simpa [textOf, i45] using hd
      subst e; decide
  have l45 : ∀ {ys : List Item}, AllB ys → ys.length ≤ 3 → (textOf (ys ++ [i45])).length ≤ 10 := fun {ys} hy hl => by
    have := hy.len
    rw [textOf_app, List.length_append]
    have : (textOf [i45]).length = 1 := rfl
    omega
  have split : ∀ {l : List Nat}, (∀ d ∈ l, d ≠ 93) → l ≠ [] → ∃ c r, l = c :: r ∧ (∀ d ∈ r, d ≠ 93) := fun {l} hl hne => by
    cases l with
    | nil => exact absurd rfl hne
    | cons c r => exact ⟨c, r, rfl, fun d hd => hl d (.tail _ hd)⟩
  cases h with
  | plain h hne hl =>
    have hl2 := h.len
    refine ⟨split (fun d hd => (h.signs d hd).1.1) ?_, fun d hd => (h.signs d hd).1.2.2, by omega, fun d hd => (h.signs d hd).2⟩
    obtain ⟨c, r, e, _⟩ := h.head hne []
    rw [List.append_nil] at e
    rw [e]; exact List.cons_ne_nil _ _
  | @minus ys h hl =>
    have := l45 h hl
    refine ⟨split (fun d hd => (m45 h d hd).1.1) ?_, fun d hd => (m45 h d hd).1.2, by omega, fun d hd => (m45 h d hd).2⟩
    rw [textOf_app]
    simp [textOf, i45]
  | @first ys h hl =>
    have := h.len
    refine ⟨⟨93, textOf ys, rfl, fun d hd => (h.signs d hd).1.1⟩, fun d hd => ?_, by rw [textOf_cons, List.length_append]; show 1 + _ ≤ 20; omega, fun d hd => ?_⟩
    · rcases List.mem_cons.mp (show d ∈ 93 :: textOf ys from hd) with rfl | hd
      · decide
      · exact (h.signs d hd).1.2.2
    · rcases List.mem_cons.mp (show d ∈ 93 :: textOf ys from hd) with rfl | hd
      · decide
      · exact (h.signs d hd).2
  | @both ys h hl =>
    have := l45 h hl
    refine ⟨⟨93, textOf (ys ++ [i45]), rfl, fun d hd => (m45 h d hd).1.1⟩, fun d hd => ?_, by rw [textOf_cons, List.length_append]; show 1 + _ ≤ 20; omega, fun d hd => ?_⟩
    · rcases List.mem_cons.mp (show d ∈ 93 :: textOf (ys ++ [i45]) from hd) with rfl | hd
      · decide
      · exact (m45 h d hd).1.2
    · rcases List.mem_cons.mp (show d ∈ 93 :: textOf (ys ++ [i45]) from hd) with rfl | hd
      · decide
      · exact (m45 h d hd).2
  | two => exact ⟨⟨45, [45], rfl, by decide⟩, by decide, by decide, by decide⟩
theorem lotB_none {l : List Nat} (neg : Bool) (h : ∃ c r, l = c :: r ∧ (∀ d ∈ r, d ≠ 93)) : lotB neg l = none := by
  obtain ⟨c, r, rfl, h⟩ := h
  by_cases hc : c = 93
  · subst hc; rw [lotB_end, lotGo_open r.length r _ (Nat.le_refl _) h]; rfl
  · rw [lotB_of neg hc, lotGo_open (c :: r).length _ _ (Nat.le_refl _) fun d hd => ?_]; rfl
    rcases List.mem_cons.mp hd with rfl | hd
    · exact hc
    · exact h d hd
theorem drawn_text {xs : List Item} (h : Drawn xs) {neg : Bool} {T : Str} (hT : chars T = (if neg then [94] else []) ++ textOf xs) : LotText T neg (prsOf xs) := by
  obtain ⟨ht, hs, hl, _⟩ := drawn_tail h
  cases neg with
  | true =>
    have hT' : chars T = 94 :: textOf xs := hT
    refine ⟨fun r => ?_, ?_, fun c hc => ?_, ?_⟩
    · rw [hT']; unfold lotL; rw [if_pos (by rfl)]; exact drawn_ends h true r
    · rw [hT']; unfold lotL; rw [if_pos (by rfl)]; exact lotB_none true ht
    · rw [hT'] at hc
      rcases List.mem_cons.mp hc with rfl | hc
      · decide
      · exact hs c hc
    · rw [← chars_len, hT', List.length_cons]; omega
  | false =>
    have hT' : chars T = textOf xs := hT
    refine ⟨fun r => ?_, ?_, fun c hc => ?_, ?_⟩
    · obtain ⟨c, r', e, h2⟩ := drawn_head h (93 :: r)
      rw [hT']; unfold lotL; rw [if_neg (by rw [e]; simpa using h2)]; exact drawn_ends h false r
    · obtain ⟨c, r', e, h2⟩ := drawn_head h []
      rw [List.append_nil] at e
      rw [hT']; unfold lotL; rw [if_neg (by rw [e]; simpa using h2)]; exact lotB_none false ht
    · rw [hT'] at hc; exact hs c hc
    · rw [← chars_len, hT']; omega
theorem Basic.small {x : Item} (h : Basic x) : x.lo < 128 ∧ x.hi < 128 := by
  rcases h with ⟨_, hhi, hlo⟩ | ⟨_, hlo, hhi⟩
  · have q := (Low.ok' hlo).2.2.2.2.2
    rw [hhi]; exact ⟨q, q⟩
  · exact ⟨hlo.ok.2.2.2.2.2, hhi.ok.2.2.2.2.2⟩
theorem drawn_small {xs : List Item} (h : Drawn xs) : (∀ x ∈ xs, (∀ d ∈ x.t, d < 128) ∧ x.lo < 128 ∧ x.hi < 128) ∧ xs.length ≤ 5 ∧ xs ≠ [] := by
  have ht := (drawn_tail h).2.2.2
  have ht' : ∀ x ∈ xs, ∀ d ∈ x.t, d < 128 := fun x hx d hd => ht d (List.mem_flatten.mpr ⟨_, List.mem_map.mpr ⟨x, hx, rfl⟩, hd⟩)
  cases h with
  | plain h hne hl => exact ⟨fun x hx => ⟨ht' x hx, (h x hx).small⟩, by omega, hne⟩
  | minus h hl =>
    refine ⟨fun x hx => ⟨ht' x hx, ?_⟩, by simp; omega, by simp⟩
    rcases List.mem_append.mp hx with hx | hx
    · exact (h x hx).small
    · rw [List.mem_singleton.mp hx]; decide
  | first h hl =>
    refine ⟨fun x hx => ⟨ht' x hx, ?_⟩, by simp; omega, by simp⟩
    rcases List.mem_cons.mp hx with rfl | hx
    · decide
    · exact (h x hx).small
  | both h hl =>
    refine ⟨fun x hx => ⟨ht' x hx, ?_⟩, by simp; omega, by simp⟩
    rcases List.mem_cons.mp hx with rfl | hx
    · decide
    rcases List.mem_append.mp hx with hx | hx
    · exact (h x hx).small
    · rw [List.mem_singleton.mp hx]; decide
  | two =>
    refine ⟨fun x hx => ⟨ht' x hx, ?_⟩, by simp, by simp⟩
    have e : x = i45 := by simpa using hx
    rw [e]; decide
end Mine

end PartPL

section PartLR
open PySem PySem.W PyProof.Rows
namespace Mine
set_option maxRecDepth 100000
set_option maxHeartbeats 4000000
local macro_rules | `(tactic| walk_at "GO") => `(tactic| repeat' (first | (k_unfold; (try dsimp only)) | (walk1; (try dsimp only)) | (leave1; walk_say "STEP leave1"; try dsimp only) | fail "no step"))
local macro_rules | `(tactic| walk_at "LoopQ") => `(tactic| refine loopQ_ret ?_)
local macro_rules | `(tactic| walk_at "CutQ") => `(tactic| refine cutQ_ret ?_)
local macro_rules | `(tactic| k_mem) => `(tactic| ((show (_ : Addr × Obj) ∈ (_ : List (Addr × Obj))); assumption))
local macro_rules | `(tactic| walk_at "USE") => `(tactic| ((case k1 => k_asm); (case k2 => k_asm); (case k3 => k_asm); (case k4 => first | k_asm | exact news_swap (by k_asm)); (case k5 => k_asm); (case kK => first | exact rfl | assumption); (case kd => ktr_room); (case ku => ktr_units)))
local macro_rules | `(tactic| walk_at "subscriptTail Name Constant ref int") => `(tactic| (k_here; k_dflt (first
  | ((with_reducible show wpAny _ _ (subscriptTail _ _ (Value.ref _) (Value.int 0 _)) _ _ _); refine' item0 ?kl ?_; (case kl => exact News.isList (by k_asm) (by k_mem)); k_whole)
  | ((with_reducible show wpAny _ _ (subscriptTail _ _ (Value.ref _) (Value.int 1 _)) _ _ _); refine' item1 ?kl ?_; (case kl => exact News.isList (by k_asm) (by k_mem)); k_whole)
  | ((with_reducible show wpAny _ _ (subscriptTail _ _ (Value.ref _) (Value.int 2 _)) _ _ _); refine' item2 ?kl ?_; (case kl => exact News.isList (by k_asm) (by k_mem)); k_whole))))

theorem len_app (a b : Str) : (a ++ b).length = a.length + b.length := by
  show (a ++ b).cps.size = a.cps.size + b.cps.size
  rw [Str.cps_append, Array.size_append]
theorem len_ch (e : Nat) : (ch e).length = 1 := rfl
theorem chars_between (T : Str) : chars (Str.ofString "x" ++ pat T ++ Str.ofString "y") = 120 :: 91 :: (chars T ++ [93, 121]) := by
  rw [chars_app, chars_app, chars_pat]
  show 120 :: 91 :: ((chars T ++ [93]) ++ [121]) = _
  rw [List.append_assoc]; rfl
theorem chars_behind (T : Str) : chars (Str.ofString "x" ++ pat T) = 120 :: 91 :: (chars T ++ [93]) := by
  rw [chars_app, chars_pat]; rfl
local macro_rules | `(tactic| walk_at "FITS") => `(tactic| (rename LotText _ _ _ => hTT; have hTs := hTT.short; rw [PySem.sizeLine_eq]; simp only [len_app, len_ch, show (Str.ofString "[").length = 1 from rfl, show (Str.ofString "]").length = 1 from rfl, show (Str.ofString "x").length = 1 from rfl, show (Str.ofString "y").length = 1 from rfl, show (Str.ofString "b").length = 1 from rfl, show (Str.ofString "a[").length = 2 from rfl]; omega))
local macro_rules | `(tactic| walk_at "binaryOp Add str str") => `(tactic| (k_here; (refine add_str ?_ ?hsz; (case hsz => walk_at "FITS"); intro _ _)))

theorem lot_right_spec (w : World) (mean : ExcName → Option Value) (mg mb : Str → Option Value) (lt pl : Addr) (T : Str) (tT : Tok) (neg : Bool) (n k : Nat) (refs : Array Value) (prs : List (Nat × Nat)) (news : List (Addr × Obj))
    (hm : (lt, listOf #[.str T tT, .bool neg, .ref pl] n) ∈ news) (hm2 : (pl, listOf refs k) ∈ news) (hps : PairsL news refs.toList prs) (hb : ∀ p ∈ prs, p.1 < 128 ∧ p.2 < 128) (hsz : refs.size ≤ 1000) (hT : LotText T neg prs) :
    Spec w mean mg mb 116 20 [.ref lt] news (fun v news' => v = .bool true ∧ news' = news) := by
  unfold Spec
  w_top off
  k_fill
  intro dp un gd cn cs a ccd cl outer A₀ base h₀ L m s Q E B F X N T' hk hd hu hret
  refine wpAny_call ?_
  k_dflt cell_enter
  have mk := kstMark
  rename_i g' L' h' FG' F' N' B' X' T''
  refine rebase [("lot", .ref lt)] F' (by kst_all) ?_
  clear F'
  intro u F'
  dsimp only [kstB] at F'
  refine cutAt (σ := Tok) 1 g' L' (fun c => [("lot", .ref lt), ("pattern", .str (pat T) c)]) (fun _ => news) (fun _ => True) ?_ ?_
  · simp only [List.take_succ_cons, List.take_zero]
    walk_at "GO"
    show At _ _ _ _ _ _ _
    exact At.intro _ (by assumption) (by assumption) (by kst_all) (fun _ h => h) trivial
  simp only [List.drop_succ_cons, List.drop_zero]
  clear F' N'
  intro tp h₁ tk₁ u₁ F' N' _
  dsimp only [kstB] at F'
  refine wpAny_execs_cons ?_
  with_reducible refine for_newR (g := g') (L := L') (news := news) [("lot", .ref lt), ("pattern", .str (pat T) tp)] (fun v => ∃ e t, v = .str (ch e) t) F' ?hL ?hp ?hit ?turn ?done ?hh ?hs ?hE
  case hL => rfl
  case hp => kst_all
  case hh => rfl
  case hs => intro _; rfl
  case hE => passes_own
  case hit =>
    walk_at "GO"
    exact EvL.intro (vs := [.str (ch 97) _, .str (ch 98) _, .str (ch 99) _, .str (ch 100) _, .str (ch 101) _, .str (ch 65) _, .str (ch 90) _, .str (ch 48) _, .str (ch 57) _, .str (ch 45) _, .str (ch 93) _, .str (ch 95) _]) (by assumption) (by assumption) (by
      intro v hv
      simp only [List.mem_cons, List.not_mem_nil, or_false] at hv
      rcases hv with rfl | rfl | rfl | rfl | rfl | rfl | rfl | rfl | rfl | rfl | rfl | rfl <;> exact ⟨_, _, rfl⟩)
  case turn =>
    clear F' N'
    intro v ax J lo o h tk u hv ho F' N'
    obtain ⟨e, te, rfl⟩ := hv
    dsimp only [kstB] at F' N'
    k_fold
    have hm' : (lt, listOf #[.str T tT, .bool neg, .ref pl] n) ∈ (J, o) :: (ax, lo) :: news := .tail _ (.tail _ hm)
    have hm2' : (pl, listOf refs k) ∈ (J, o) :: (ax, lo) :: news := .tail _ (.tail _ hm2)
    have hps' : PairsL ((J, o) :: (ax, lo) :: news) refs.toList prs := hps.mono fun _ h => .tail _ (.tail _ h)
    walk_at "GO"
    k_dflt (refine' Spec.use (ltakes_spec _ _ _ _ lt pl T tT neg n k refs prs e te _ hm' hm2' hps' hb hsz) ?k1 ?k2 ?k3 ?k4 ?k5 ?kK ?kd ?ku ?_; (walk_at "USE"))
    intro v2 h2 tk2 news2 F2 N2 hO2
    (try k_sweep)
    (try dsimp only)
    obtain ⟨a2, b2⟩ := hO2
    subst a2
    subst b2
    walk_at "GO"
    k_dflt (refine' Spec.use (glob_one _ _ _ _ _ _ _ hT (chars_pat T) (show chars (ch e) = [e] from rfl)) ?k1 ?k2 ?k3 ?k4 ?k5 ?kK ?kd ?ku ?_; (walk_at "USE"))
    intro v3 h3 tk3 news3 F3 N3 hO3
    (try k_sweep)
    (try dsimp only)
    obtain ⟨a3, b3⟩ := hO3
    subst a3
    subst b3
    walk_at "GO"
    · rename (takesD (PartD.lot neg prs) e != takesD (PartD.lot neg prs) e) = true => hne
      rw [bne_self_eq_false] at hne
      exact absurd hne (by decide)
    · show At _ _ _ _ _ _ _
      exact At.intro () (by assumption) (by assumption) (by kst_all) (fun _ h => h) trivial
  case done =>
    clear F' N'
    intro h tk u F' N'
    dsimp only [kstB] at F' N'
    dsimp only
    (try k_fold)
    walk_at "GO"
    k_dflt (refine' Spec.use (glob_between _ _ _ _ _ _ _ hT (chars_between T) (e := 98) rfl) ?k1 ?k2 ?k3 ?k4 ?k5 ?kK ?kd ?ku ?_; (walk_at "USE"))
    intro v2 h2 tk2 news2 F2 N2 hO2
    (try k_sweep)
    (try dsimp only)
    obtain ⟨a2, b2⟩ := hO2
    subst a2
    subst b2
    walk_at "GO"
    k_dflt (refine' Spec.use (ltakes_spec _ _ _ _ lt pl T tT neg n k refs prs 98 _ _ hm hm2 hps hb hsz) ?k1 ?k2 ?k3 ?k4 ?k5 ?kK ?kd ?ku ?_; (walk_at "USE"))
    intro v3 h3 tk3 news3 F3 N3 hO3
    (try k_sweep)
    (try dsimp only)
    obtain ⟨a3, b3⟩ := hO3
    subst a3
    subst b3
    walk_at "GO"
    · rename (takesD (PartD.lot neg prs) 98 != takesD (PartD.lot neg prs) 98) = true => hne
      rw [bne_self_eq_false] at hne
      exact absurd hne (by decide)
    k_dflt (refine' Spec.use (glob_none _ _ _ _ _ _ _ hT (chars_pat T) (m := []) rfl (.inl rfl)) ?k1 ?k2 ?k3 ?k4 ?k5 ?kK ?kd ?ku ?_; (walk_at "USE"))
    intro v4 h4 tk4 news4 F4 N4 hO4
    (try k_sweep)
    (try dsimp only)
    obtain ⟨a4, b4⟩ := hO4
    subst a4
    subst b4
    walk_at "GO"
    k_dflt (refine' Spec.use (glob_none _ _ _ _ _ _ _ hT (chars_pat T) (m := [97, 98]) rfl (.inr rfl)) ?k1 ?k2 ?k3 ?k4 ?k5 ?kK ?kd ?ku ?_; (walk_at "USE"))
    intro v5 h5 tk5 news5 F5 N5 hO5
    (try k_sweep)
    (try dsimp only)
    obtain ⟨a5, b5⟩ := hO5
    subst a5
    subst b5
    walk_at "GO"
    k_dflt (refine' Spec.use (glob_behind _ _ _ _ _ _ _ hT (chars_behind T) rfl) ?k1 ?k2 ?k3 ?k4 ?k5 ?kK ?kd ?ku ?_; (walk_at "USE"))
    intro v6 h6 tk6 news6 F6 N6 hO6
    (try k_sweep)
    (try dsimp only)
    obtain ⟨a6, b6⟩ := hO6
    subst a6
    subst b6
    walk_at "GO"
    exact hret _ _ _ _ (by assumption) (by assumption) ⟨rfl, rfl⟩
end Mine

end PartLR

section PartLO
open PySem PySem.W PyProof.Rows
namespace Mine
set_option maxRecDepth 100000
set_option maxHeartbeats 4000000
local macro_rules | `(tactic| walk_at "GO") => `(tactic| repeat' (first | (k_unfold; (try dsimp only)) | (walk1; (try dsimp only)) | (leave1; walk_say "STEP leave1"; try dsimp only) | fail "no step"))
local macro_rules | `(tactic| walk_at "LoopQ") => `(tactic| refine loopQ_ret ?_)
local macro_rules | `(tactic| walk_at "CutQ") => `(tactic| refine cutQ_ret ?_)
local macro_rules | `(tactic| k_mem) => `(tactic| ((show (_ : Addr × Obj) ∈ (_ : List (Addr × Obj))); assumption))
local macro_rules | `(tactic| walk_at "USE") => `(tactic| ((case k1 => k_asm); (case k2 => k_asm); (case k3 => k_asm); (case k4 => first | k_asm | exact news_swap (by k_asm)); (case k5 => k_asm); (case kK => first | exact rfl | assumption); (case kd => ktr_room); (case ku => ktr_units)))
local macro_rules | `(tactic| walk_at "USE2") => `(tactic| ((case k1 => k_asm); (case k2 => k_asm); (case k3 => k_asm); (case k5 => k_asm); (case kK => first | exact rfl | assumption); (case kd => ktr_room); (case ku => ktr_units)))
local macro_rules | `(tactic| walk_at "MEM") => `(tactic| repeat (first | exact List.Mem.head _ | refine List.Mem.tail _ ?_))
local macro_rules | `(tactic| walk_at "ENTERC") => `(tactic| (refine' code_defC ?k1 ?k2 ?k3 ?k4 ?k5 ?kA ?kF ?kK ?k6 ?k7 ?k8 ?k9 ?kB ?kD ?_ ?c2 ?c3 ?c4; (case kA => exact rfl); (case kF => exact rfl); (case kK => first | exact rfl | assumption); (case k1 => k_asm); (case k2 => k_asm); (case k3 => k_asm); (case k4 => k_asm); (case k5 => k_asm); (case k6 => k_is); (case k7 => k_is); (case k8 => ktr_room); (case k9 => first | exact BindsTo.of_eq rfl | exact binds_K (by k_in) rfl (by k_is) rfl rfl rfl); (case kB => exact rfl); (case kD => decide +kernel); (case c2 => exact rfl); (case c3 => exact rfl); (case c4 => exact rfl); k_whole; intro g' L' h' tk' cells' FG' F' N' Y' B' X' T' l1; k_cells Y'; (try simp only [List.cons_append, List.nil_append] at N'); (try dsimp only); (try k_lift B'); (try k_fold)))
local macro_rules | `(tactic| walk_at "subscriptTail Name Constant ref int") => `(tactic| (k_here; k_dflt (first
  | ((with_reducible show wpAny _ _ (subscriptTail _ _ (Value.ref _) (Value.int 0 _)) _ _ _); refine' item0 ?kl ?_; (case kl => exact News.isList (by k_asm) (by k_mem)); k_whole)
  | ((with_reducible show wpAny _ _ (subscriptTail _ _ (Value.ref _) (Value.int 1 _)) _ _ _); refine' item1 ?kl ?_; (case kl => exact News.isList (by k_asm) (by k_mem)); k_whole)
  | ((with_reducible show wpAny _ _ (subscriptTail _ _ (Value.ref _) (Value.int 2 _)) _ _ _); refine' item2 ?kl ?_; (case kl => exact News.isList (by k_asm) (by k_mem)); k_whole))))
local macro_rules | `(tactic| walk_at "eval ListComp") => `(tactic| (k_here; k_dflt (first
  | refine LCg.ListComp_U (F₀ := by k_asm) (by with_unfolding_all rfl) (by decide) (by rfl) (by decide) (by rfl) ?_)))
local macro_rules | `(tactic| walk_at "exec Assign cons ListComp") => `(tactic| (k_here; k_dflt (refine LCg.Assign_ListComp_U (F₀ := by k_asm) (by rfl) (by with_unfolding_all rfl) (by with_unfolding_all rfl) (by decide) (by rfl) (by decide) (by rfl) (by rfl) (by rfl) ?_)))

/-- parts drawn, as lists on the ledger -/
def ItemsIn (led : List (Addr × Obj)) : List Value → List Item → Prop
  | [], [] => True
  | v :: vs, x :: xs => ItemIn led v x ∧ ItemsIn led vs xs
  | _, _ => False
theorem ItemsIn.mono {led led' : List (Addr × Obj)} (s : ∀ q ∈ led, q ∈ led') : ∀ {vs : List Value} {xs : List Item}, ItemsIn led vs xs → ItemsIn led' vs xs
  | [], [], _ => trivial
  | [], _ :: _, h => h.elim
  | _ :: _, [], h => h.elim
  | _ :: _, _ :: _, h => ⟨h.1.mono s, h.2.mono s⟩
theorem ItemsIn.app {led : List (Addr × Obj)} : ∀ {vs us : List Value} {xs ys : List Item}, ItemsIn led vs xs → ItemsIn led us ys → ItemsIn led (vs ++ us) (xs ++ ys)
  | [], _, [], _, _, k => k
  | [], _, _ :: _, _, h, _ => h.elim
  | _ :: _, _, [], _, h, _ => h.elim
  | _ :: _, _, _ :: _, _, h, k => ⟨h.1, h.2.app k⟩
theorem ItemsIn.one {led : List (Addr × Obj)} {v : Value} {x : Item} (h : ItemIn led v x) : ItemsIn led [v] [x] := ⟨h, trivial⟩
theorem ItemsIn.length {led : List (Addr × Obj)} : ∀ {vs : List Value} {xs : List Item}, ItemsIn led vs xs → vs.length = xs.length
  | [], [], _ => rfl
  | [], _ :: _, h => h.elim
  | _ :: _, [], h => h.elim
  | _ :: _, _ :: _, h => congrArg (· + 1) h.2.length
theorem ItemsIn.get {led : List (Addr × Obj)} : ∀ {vs : List Value} {xs : List Item} {i : Nat} {v : Value}, ItemsIn led vs xs → vs[i]? = some v → ∃ x, xs[i]? = some x ∧ ItemIn led v x
  | [], _, _, _, _, h => by simp at h
  | _ :: _, [], _, _, h, _ => h.elim
  | x :: _, p :: _, 0, v, h, e => by
    have e' : x = v := by simpa using e
    subst e'
    exact ⟨p, rfl, h.1⟩
  | _ :: _, _ :: _, i + 1, _, h, e => by
    obtain ⟨p, a, b⟩ := h.2.get (i := i) (by simpa using e)
    exact ⟨p, by simpa using a, b⟩

/-- a lot on the ledger -/
def LotIn (led : List (Addr × Obj)) (v : Value) (T : Str) (neg : Bool) (xs : List Item) : Prop :=
  ∃ lt pl tT n k refs, v = .ref lt ∧ (lt, listOf #[.str T tT, .bool neg, .ref pl] n) ∈ led ∧ (pl, listOf refs k) ∈ led ∧ PairsL led refs.toList (prsOf xs)
def LotLOut (src : Addr) (news : List (Addr × Obj)) (v : Value) (news' : List (Addr × Obj)) : Prop :=
  ∃ T neg xs o' tl, Drawn xs ∧ chars T = (if neg then [94] else []) ++ textOf xs ∧ SrcOk o' ∧ news' = (src, o') :: (tl ++ news) ∧ (∀ q ∈ tl, q.1 ≠ src) ∧ LotIn tl v T neg xs

/-- a goal that the walk leaves alone -/
def Hold (P : Prop) : Prop := P
theorem hold_out {P : Prop} (h : Hold P) : P := h
theorem hold_in {P : Prop} (h : P) : Hold P := h
local macro_rules | `(tactic| walk_at "CompSrc") => `(tactic| (k_here; (show LCg.CompSrc _ _ _ _ _ _ _ _ _ _ _ _ _ _); refine hold_out ?_))
theorem range_small {d : Int} (h0 : 0 ≤ d) (h1 : d < 3) : Builtin.Range.small 0 d 1 = true := by
  obtain rfl | rfl | rfl : d = 0 ∨ d = 1 ∨ d = 2 := by omega
  all_goals decide
theorem range_size {d : Int} (h0 : 0 ≤ d) (h1 : d < 3) : Builtin.Range.rangeSize 0 d 1 = ((d.toNat : Nat) : Int) := by
  obtain rfl | rfl | rfl : d = 0 ∨ d = 1 ∨ d = 2 := by omega
  all_goals decide
theorem off3_of {J C D src : Addr} {o : Obj} {tl2 tl rest : List (Addr × Obj)} {oI oC oD oS : Obj} (h2 : FreshTl ((J, oI) :: (C, oC) :: (D, oD) :: (tl ++ rest)) tl2) (h : LCg.Off3 J C D ((src, oS) :: (tl ++ rest))) : LCg.Off3 J C D ((src, o) :: ((tl2 ++ tl) ++ rest)) := by
  have hm := h.mem
  refine LCg.Off3.of fun p hp => ?_
  rcases List.mem_cons.mp hp with rfl | hp
  · exact hm (src, oS) (.head _)
  · rw [List.append_assoc] at hp
    rcases List.mem_append.mp hp with hp | hp
    · exact ⟨Nat.ne_of_gt (h2 p hp _ (.head _)), Nat.ne_of_gt (h2 p hp _ (.tail _ (.head _))), Nat.ne_of_gt (h2 p hp _ (.tail _ (.tail _ (.head _))))⟩
    · exact hm p (.tail _ hp)
structure LoC where
  o : Obj
  tl : List (Addr × Obj)
  xs : List Item

/-- the source of draws taken to the front of a ledger -/
theorem news_sub {g : Heap} {L : Addr} {h : Heap} {l l' : List (Addr × Obj)} (N : News g L h l) (s : ∀ p ∈ l', p ∈ l) : News g L h l' := fun p hp => N p (s p hp)
theorem ne_cons {tl : List (Addr × Obj)} {src D : Addr} {o : Obj} (h : D ≠ src) (k : ∀ q ∈ tl, q.1 ≠ src) : ∀ q ∈ (D, o) :: tl, q.1 ≠ src := fun q hq => by
  rcases List.mem_cons.mp hq with rfl | hq
  · exact h
  · exact k q hq
theorem grow_sub {x e : Addr × Obj} {l r mids : List (Addr × Obj)} : ∀ p ∈ e :: ((x :: l) ++ r), p ∈ x :: (mids ++ e :: (l ++ r)) := fun p hp => by
  rcases List.mem_cons.mp hp with rfl | hp
  · exact .tail _ (List.mem_append_right _ (.head _))
  rcases List.mem_cons.mp hp with rfl | hp
  · exact .head _
  · exact .tail _ (List.mem_append_right _ (.tail _ hp))
theorem off_app {a b : List (Addr × Obj)} {r : Addr} (ha : ∀ q ∈ a, q.1 ≠ r) (hb : OwnOff b [r]) : OwnOff (a ++ b) [r] := off_ne fun p hp => by
  rcases List.mem_append.mp hp with hp | hp
  · exact ha p hp
  · exact hb p hp r (.head _)

theorem news_mv {g : Heap} {L : Addr} {h : Heap} {l r : List (Addr × Obj)} {a : Addr × Obj} (N : News g L h (l ++ a :: r)) : News g L h (a :: (l ++ r)) := news_sub N fun p hp => by
  rcases List.mem_cons.mp hp with rfl | hp
  · exact List.mem_append_right _ (.head _)
  rcases List.mem_append.mp hp with hp | hp
  · exact List.mem_append_left _ hp
  · exact List.mem_append_right _ (.tail _ hp)

/-- between two statements of _law_lot -/
structure LoS where
  neg : Bool
  o : Obj
  tl : List (Addr × Obj)
  r : Addr
  n : Nat
  vs : List Value
  xs : List Item

/-- the drawn first part, or none -/
def FirstIn (led : List (Addr × Obj)) (v : Value) : Option Item → Prop
  | none => ∃ f n, v = .ref f ∧ (f, listOf #[] n) ∈ led
  | some x => (x = i93 ∨ x = i45) ∧ ItemIn led v x
structure LoF where
  v : Value
  o : Obj
  tl : List (Addr × Obj)
  x : Option Item

theorem ItemIn.rd {led : List (Addr × Obj)} {v : Value} {x : Item} (h : ItemIn led v x) (hs : (∀ d ∈ x.t, d < 128) ∧ x.lo < 128 ∧ x.hi < 128) : ∃ d, Rd led v d ∧ Tame d := by
  obtain ⟨p, T, tt, q, n, rfl, hT, hm, hq⟩ := h
  refine ⟨.list [.str T, datP x.lo x.hi], Rd.list (vs := [.str T tt, q]) hm ⟨Rd.str, hq.rd, trivial⟩, ?_, ?_⟩
  · have a := (tame_str (T := T) (by rw [hT]; exact hs.1)).1
    have b := (tame_pair hs.2.1 hs.2.2).1
    show PyData.canLayAll0 [.str T, datP x.lo x.hi] = true
    unfold PyData.canLayAll0
    rw [a]
    unfold PyData.canLayAll0
    rw [b]; rfl
  · simp [datP, PyData.depth, PyData.depthAll]
theorem ItemsIn.rd {led : List (Addr × Obj)} : ∀ {vs : List Value} {xs : List Item}, ItemsIn led vs xs → (∀ x ∈ xs, (∀ d ∈ x.t, d < 128) ∧ x.lo < 128 ∧ x.hi < 128) → ∃ ds, RdAll led vs ds ∧ ∀ d ∈ ds, Tame d
  | [], [], _, _ => ⟨[], trivial, fun _ h => nomatch h⟩
  | [], _ :: _, h, _ => h.elim
  | _ :: _, [], h, _ => h.elim
  | _ :: _, _ :: _, h, hs => by
    obtain ⟨d, h1, h2⟩ := h.1.rd (hs _ (.head _))
    obtain ⟨ds, h3, h4⟩ := h.2.rd fun x hx => hs x (.tail _ hx)
    exact ⟨d :: ds, ⟨h1, h3⟩, fun y hy => (List.mem_cons.mp hy).elim (fun e => e ▸ h2) (h4 y)⟩
theorem str_of {T : Str} {l : List Nat} (h : chars T = l) : T = ⟨l.toArray⟩ := by
  cases T with
  | mk a => subst h; simp [chars]
theorem basic_small {x : Item} (h : Basic x) : (∀ d ∈ x.t, d < 128) ∧ x.lo < 128 ∧ x.hi < 128 := by
  refine ⟨fun d hd => ?_, h.small⟩
  have h1 : AllB [x] := fun y hy => by rw [List.mem_singleton.mp hy]; exact h
  exact (h1.signs d (by simpa [textOf] using hd)).2
theorem is_end {T : Str} (h : chars T = [93]) : (T == Str.ofString "]") = true := by rw [str_of h]; decide
theorem no_end {T : Str} (h : chars T = [45]) : (T == Str.ofString "]") = false := by rw [str_of h]; decide
section
variable {prog : Program} {w : World} {A : Around} {E : Value → Shared → Prop} {s : Shared} {h₀ : Heap} {L a b : Addr} {m : Str → Option Value} {news : List (Addr × Obj)} {vs us : List Value} {n k : Nat} {Q : Value → Shared → Prop}
theorem add_K (F : Fr h₀ L s.heap m) (N : News h₀ L s.heap news) (ha : (a, listOf vs.toArray n) ∈ news) (hb : (b, listOf us.toArray k) ∈ news) (hz : vs.length + us.length ≤ 1000)
    (h : ∀ D h', Fr h₀ L h' m → News h₀ L h' ((D, listOf (vs ++ us).toArray 0) :: news) → (∀ p ∈ news, p.1 < D) → Q (.ref D) { s with heap := h' }) : wpAny (model prog w) A (binaryOp .Add (.ref a) (.ref b)) Q E s :=
  add_lists (hsz := by rw [PySem.sizeLine_eq]; omega) F N (News.isList N ha) (News.isList N hb) fun h' F' N' => h _ h' F' N' fun p hp => Heap.lt_size (N p hp).1
end
local macro_rules | `(tactic| walk_at "binaryOp Add ref ref") => `(tactic| (k_here; (with_reducible show wpAny _ _ (binaryOp _ (Value.ref _) (Value.ref _)) _ _ _); refine hold_out ?_))
local macro_rules | `(tactic| walk_at "compareOp Eq ref ref") => `(tactic| (k_here; (with_reducible show wpAny _ _ (compareOp _ (Value.ref _) (Value.ref _)) _ _ _); refine hold_out ?_))
local macro_rules | `(tactic| walk_at "compareOp NotEq ref ref") => `(tactic| (k_here; (with_reducible show wpAny _ _ (compareOp _ (Value.ref _) (Value.ref _)) _ _ _); refine hold_out ?_))
local macro_rules | `(tactic| walk_at "binaryOp Add str str") => `(tactic| (k_here; refine hold_out ?_))
local macro_rules | `(tactic| walk_at "call builtin:str.join") => `(tactic| (k_here; refine hold_out ?_))
/-- the parts behind the first if -/
def Mid (xs : List Item) : Prop := (AllB xs ∧ xs.length ≤ 2) ∨ (∃ ys, xs = i93 :: ys ∧ AllB ys ∧ ys.length ≤ 2) ∨ xs = [i45]
theorem first_led {g : Heap} {L : Addr} {h : Heap} {src z1 z2 z3 z4 z5 z6 z7 : Addr} {o2 a7 : Obj} {t1 t2 t3 t4 t5 t6 : Tok} {n1 n2 n3 n4 n5 n6 : Nat} {tl rest : List (Addr × Obj)} {i : Nat} {v : Value}
    (N : News g L h ((src, o2) :: (z7, a7) :: (z6, listOf #[.str (Str.ofString "-") t1, .ref z5] n6) :: (z5, listOf #[.str (Str.ofString "-") t2, .str (Str.ofString "-") t3] n5) :: (z4, listOf #[.str (Str.ofString "]") t4, .ref z3] n4) :: (z3, listOf #[.str (Str.ofString "]") t5, .str (Str.ofString "]") t6] n3) :: (z2, listOf #[] n2) :: (z1, listOf #[] n1) :: (tl ++ rest)))
    (hv : [Value.ref z1, .ref z2, .ref z4, .ref z6][i]? = some v) (g1 : src < z1) (g2 : src < z2) (g3 : src < z3) (g4 : src < z4) (g5 : src < z5) (g6 : src < z6) (g7 : src < z7) (hlt : ∀ q ∈ tl, q.1 ≠ src) :
    ∃ tl2 x, News g L h ((src, o2) :: (tl2 ++ rest)) ∧ (∀ q ∈ tl2, q.1 ≠ src) ∧ (∀ q ∈ tl, q ∈ tl2) ∧ FirstIn tl2 v x := by
  obtain ⟨led, hled⟩ : ∃ l : List (Addr × Obj), l = (z7, a7) :: (z6, listOf #[.str (Str.ofString "-") t1, .ref z5] n6) :: (z5, listOf #[.str (Str.ofString "-") t2, .str (Str.ofString "-") t3] n5) :: (z4, listOf #[.str (Str.ofString "]") t4, .ref z3] n4) :: (z3, listOf #[.str (Str.ofString "]") t5, .str (Str.ofString "]") t6] n3) :: (z2, listOf #[] n2) :: (z1, listOf #[] n1) :: tl := ⟨_, rfl⟩
  have m1 : (z1, listOf #[] n1) ∈ led := by rw [hled]; walk_at "MEM"
  have m2 : (z2, listOf #[] n2) ∈ led := by rw [hled]; walk_at "MEM"
  have m4 : ItemIn led (.ref z4) i93 := by rw [hled]; exact ⟨z4, _, t4, .ref z3, n4, rfl, rfl, (by walk_at "MEM"), z3, t5, t6, n3, rfl, (by walk_at "MEM")⟩
  have m6 : ItemIn led (.ref z6) i45 := by rw [hled]; exact ⟨z6, _, t1, .ref z5, n6, rfl, rfl, (by walk_at "MEM"), z5, t2, t3, n5, rfl, (by walk_at "MEM")⟩
  refine ⟨led, ?_⟩
  have e : ∃ x, FirstIn led v x := by
    match i, hv with
    | 0, hv => exact ⟨none, z1, n1, (Option.some.inj hv).symm, m1⟩
    | 1, hv => exact ⟨none, z2, n2, (Option.some.inj hv).symm, m2⟩
    | 2, hv => rw [← Option.some.inj hv]; exact ⟨some i93, .inl rfl, m4⟩
    | 3, hv => rw [← Option.some.inj hv]; exact ⟨some i45, .inr rfl, m6⟩
    | n + 4, hv => simp at hv
  obtain ⟨x, hx⟩ := e
  refine ⟨x, ?_, ?_, ?_, hx⟩
  · rw [hled]; exact N
  · intro q hq
    rw [hled] at hq
    simp only [List.mem_cons] at hq
    rcases hq with rfl | rfl | rfl | rfl | rfl | rfl | rfl | hq
    · exact Nat.ne_of_gt g7
    · exact Nat.ne_of_gt g6
    · exact Nat.ne_of_gt g5
    · exact Nat.ne_of_gt g4
    · exact Nat.ne_of_gt g3
    · exact Nat.ne_of_gt g2
    · exact Nat.ne_of_gt g1
    · exact hlt q hq
  · intro q hq
    rw [hled]
    exact .tail _ (.tail _ (.tail _ (.tail _ (.tail _ (.tail _ (.tail _ hq))))))

/-- the parts' texts -/
def TextsAre : List Value → List Item → Prop
  | [], [] => True
  | v :: vs, x :: xs => (∃ T t, v = .str T t ∧ chars T = x.t) ∧ TextsAre vs xs
  | _, _ => False
theorem TextsAre.snoc {v : Value} {x : Item} (hv : ∃ T t, v = .str T t ∧ chars T = x.t) : ∀ {vs : List Value} {xs : List Item}, TextsAre vs xs → TextsAre (vs ++ [v]) (xs ++ [x])
  | [], [], _ => ⟨hv, trivial⟩
  | [], _ :: _, h => h.elim
  | _ :: _, [], h => h.elim
  | _ :: _, _ :: _, h => ⟨h.1, h.2.snoc hv⟩
theorem TextsAre.strs : ∀ {vs : List Value} {xs : List Item}, TextsAre vs xs → ∃ ts, StrsAre vs ts ∧ ts.map chars = xs.map Item.t
  | [], [], _ => ⟨[], .nil, rfl⟩
  | [], _ :: _, h => h.elim
  | _ :: _, [], h => h.elim
  | _ :: _, _ :: _, h => by
    obtain ⟨⟨T, t, e, hT⟩, h⟩ := h
    obtain ⟨ts, h1, h2⟩ := h.strs
    subst e
    exact ⟨T :: ts, .cons T t h1, by rw [List.map_cons, List.map_cons, hT, h2]⟩
theorem join_chars : ∀ ys : List Str, chars (Str.join (Str.ofString "") ys) = (ys.map chars).flatten
  | [] => rfl
  | [x] => by simp [Str.join]
  | x :: y :: r => by
    show chars (x ++ Str.ofString "" ++ Str.join (Str.ofString "") (y :: r)) = _
    rw [chars_app, chars_app, join_chars (y :: r)]
    show chars x ++ [] ++ _ = _
    rw [List.append_nil]; rfl
theorem txt_chars (ys : List Str) : chars (PySem.Txt.join (Str.ofString "") ys) = (ys.map chars).flatten := by
  show chars (Builtin.Str.glued (Str.ofString "") ys) = _
  rw [StrLaws.glued_eq_join, join_chars]
theorem weigh_strs {ts : List Str} {xs : List Item} (h : ts.map chars = xs.map Item.t) (hl : (textOf xs).length ≤ 20) (hx : xs.length ≤ 5) : (ts.map (·.length)).sum + ts.length ≤ 1048576 := by
  have e1 : ts.length = xs.length := by have := congrArg List.length h; simpa using this
  have e2 : ts.map (·.length) = (ts.map chars).map List.length := by
    rw [List.map_map]
    exact List.map_congr_left fun T _ => (chars_len T).symm
  rw [e2, h, e1]
  unfold textOf at hl
  rw [List.length_flatten] at hl
  omega
theorem PairsL.snoc {led : List (Addr × Obj)} {v : Value} {p : Nat × Nat} (hv : PairL led v p.1 p.2) : ∀ {vs : List Value} {ps : List (Nat × Nat)}, PairsL led vs ps → PairsL led (vs ++ [v]) (ps ++ [p])
  | [], [], _ => ⟨hv, trivial⟩
  | [], _ :: _, h => h.elim
  | _ :: _, [], h => h.elim
  | _ :: _, _ :: _, h => ⟨h.1, h.2.snoc hv⟩
theorem take_snoc {α : Type} {l : List α} {i : Nat} {p : α} (h : l[i]? = some p) : l.take (i + 1) = l.take i ++ [p] := by rw [List.take_add_one, h]; rfl
theorem minus_led {g : Heap} {L : Addr} {h : Heap} {src z0 z1 z2 z3 D : Addr} {o a0 a3 oD : Obj} {t1 t2 t3 : Tok} {n1 n2 : Nat} {tl rest : List (Addr × Obj)}
    (N : News g L h ((D, oD) :: (z3, a3) :: (z2, listOf #[.str (Str.ofString "-") t1, .ref z1] n2) :: (z1, listOf #[.str (Str.ofString "-") t2, .str (Str.ofString "-") t3] n1) :: (z0, a0) :: (src, o) :: (tl ++ rest)))
    (gD : src < D) (g1 : src < z1) (g2 : src < z2) (hlt : ∀ q ∈ tl, q.1 ≠ src) :
    ∃ tl2, News g L h ((src, o) :: (tl2 ++ rest)) ∧ (∀ q ∈ tl2, q.1 ≠ src) ∧ (∀ q ∈ tl, q ∈ tl2) ∧ (D, oD) ∈ tl2 ∧ ItemIn tl2 (.ref z2) i45 := by
  refine ⟨(D, oD) :: (z2, listOf #[.str (Str.ofString "-") t1, .ref z1] n2) :: (z1, listOf #[.str (Str.ofString "-") t2, .str (Str.ofString "-") t3] n1) :: tl, news_sub N ?_, ne_cons (Nat.ne_of_gt gD) (ne_cons (Nat.ne_of_gt g2) (ne_cons (Nat.ne_of_gt g1) hlt)), fun q hq => .tail _ (.tail _ (.tail _ hq)), .head _, ⟨z2, _, t1, .ref z1, n2, rfl, rfl, .tail _ (.head _), z1, t2, t3, n1, rfl, .tail _ (.tail _ (.head _))⟩⟩
  intro p hp
  rcases List.mem_cons.mp hp with rfl | hp
  · walk_at "MEM"
  rcases List.mem_cons.mp hp with rfl | hp
  · walk_at "MEM"
  rcases List.mem_cons.mp hp with rfl | hp
  · walk_at "MEM"
  rcases List.mem_cons.mp hp with rfl | hp
  · walk_at "MEM"
  exact .tail _ (.tail _ (.tail _ (.tail _ (.tail _ (.tail _ hp)))))
theorem line_led {g : Heap} {L : Addr} {h : Heap} {src z0 z1 z2 z3 : Addr} {o a0 : Obj} {t1 t2 t3 : Tok} {n1 n2 n3 : Nat} {tl rest : List (Addr × Obj)}
    (N : News g L h ((z3, listOf #[.ref z2] n3) :: (z2, listOf #[.str (Str.ofString "_") t1, .ref z1] n2) :: (z1, listOf #[.str (Str.ofString "_") t2, .str (Str.ofString "_") t3] n1) :: (z0, a0) :: (src, o) :: (tl ++ rest)))
    (g1 : src < z1) (g2 : src < z2) (g3 : src < z3) (hlt : ∀ q ∈ tl, q.1 ≠ src) :
    ∃ tl2, News g L h ((src, o) :: (tl2 ++ rest)) ∧ (∀ q ∈ tl2, q.1 ≠ src) ∧ (z3, listOf [Value.ref z2].toArray n3) ∈ tl2 ∧ ItemsIn tl2 [.ref z2] [i95] := by
  refine ⟨(z3, listOf #[.ref z2] n3) :: (z2, listOf #[.str (Str.ofString "_") t1, .ref z1] n2) :: (z1, listOf #[.str (Str.ofString "_") t2, .str (Str.ofString "_") t3] n1) :: tl, news_sub N ?_, ne_cons (Nat.ne_of_gt g3) (ne_cons (Nat.ne_of_gt g2) (ne_cons (Nat.ne_of_gt g1) hlt)), .head _, ItemsIn.one ⟨z2, _, t1, .ref z1, n2, rfl, rfl, .tail _ (.head _), z1, t2, t3, n1, rfl, .tail _ (.tail _ (.head _))⟩⟩
  intro p hp
  rcases List.mem_cons.mp hp with rfl | hp
  · walk_at "MEM"
  rcases List.mem_cons.mp hp with rfl | hp
  · walk_at "MEM"
  rcases List.mem_cons.mp hp with rfl | hp
  · walk_at "MEM"
  rcases List.mem_cons.mp hp with rfl | hp
  · walk_at "MEM"
  exact .tail _ (.tail _ (.tail _ (.tail _ (.tail _ hp))))
theorem i95_basic : Basic i95 := .inl ⟨rfl, rfl, .inr rfl⟩
theorem Mid.small {xs : List Item} (h : Mid xs) : (∀ x ∈ xs, (∀ d ∈ x.t, d < 128) ∧ x.lo < 128 ∧ x.hi < 128) ∧ xs.length ≤ 3 := by
  rcases h with ⟨hb, hl⟩ | ⟨ys, rfl, hb, hl⟩ | rfl
  · exact ⟨fun x hx => basic_small (hb x hx), by omega⟩
  · refine ⟨fun x hx => ?_, by simp; omega⟩
    rcases List.mem_cons.mp hx with rfl | hx
    · decide
    · exact basic_small (hb x hx)
  · exact ⟨fun x hx => by rw [List.mem_singleton.mp hx]; decide, by decide⟩
theorem Mid.stay {xs : List Item} (h : Mid xs) : Drawn xs ∨ xs = [] := by
  rcases h with ⟨hb, hl⟩ | ⟨ys, rfl, hb, hl⟩ | rfl
  · by_cases e : xs = []
    · exact .inr e
    · exact .inl (.plain hb e (by omega))
  · exact .inl (.first hb (by omega))
  · exact .inl (Drawn.minus (xs := []) (fun _ h => nomatch h) (by decide))
theorem Mid.more {xs : List Item} (h : Mid xs) : Drawn (xs ++ [i45]) := by
  rcases h with ⟨hb, hl⟩ | ⟨ys, rfl, hb, hl⟩ | rfl
  · exact .minus hb (by omega)
  · exact .both hb (by omega)
  · exact .two

theorem lot_spec (w : World) (mean : ExcName → Option Value) (mg mb : Str → Option Value) (src : Addr) (o : Obj) (news : List (Addr × Obj))
    (ho : SrcOk o) (hoff : OwnOff news [src]) :
    Spec w mean mg mb 104 12 [.ref src] ((src, o) :: news) (LotLOut src news) := by
  unfold Spec
  w_top off
  k_fill
  intro dp un gd cn cs a ccd cl outer A₀ base h₀ L m s Q E B F X N T' hk hd hu hret
  refine wpAny_call ?_
  k_dflt (walk_at "ENTERC")
  have mk := kstMark
  rename_i g' L' h' tk0 FG' F' B' X' T'' l1 oc hoc N'
  have hoc' : oc.data = .cell (some (.ref src)) := hoc
  clear hoc
  have hsrc : src < L' := l1 (src, o) (.head _)
  obtain ⟨rest, hrest⟩ : ∃ l, l = (L' + 1, oc) :: news := ⟨_, rfl⟩
  have hcell : (L' + 1, oc) ∈ rest := by rw [hrest]; exact .head _
  have hoffr : OwnOff rest [src] := by rw [hrest]; exact off_cons (Nat.ne_of_gt (Nat.lt_succ_of_lt hsrc)) hoff
  have hnr : ∀ p ∈ news, p ∈ rest := fun p hp => by rw [hrest]; exact .tail _ hp
  have N0 : News g' L' h' ((src, o) :: rest) := by rw [hrest]; exact news_swap N'
  clear N'
  refine rebase [] F' (by kst_all) ?_
  clear F'
  intro u F'
  dsimp only [kstB] at F'
  refine cutAt (σ := LoS) 2 g' L' (fun c => [("turned", .bool c.neg), ("parts", .ref c.r)]) (fun c => (src, c.o) :: (c.tl ++ rest)) (fun c => SrcOk c.o ∧ (∀ q ∈ c.tl, q.1 ≠ src) ∧ (c.r, listOf c.vs.toArray c.n) ∈ c.tl ∧ ItemsIn c.tl c.vs c.xs ∧ AllB c.xs ∧ c.xs.length ≤ 2) ?_ ?_
  · simp only [List.take_succ_cons, List.take_zero]
    walk_at "GO"
    k_dflt (refine' Spec.use (take_spec _ _ _ _ src o 3 _ rest ho (by decide) (by decide) hoffr) ?k1 ?k2 ?k3 ?k4 ?k5 ?kK ?kd ?ku ?_; (walk_at "USE"))
    intro v1 h1 tk1 news1 F1 N1 hO1
    (try k_sweep)
    (try dsimp only)
    obtain ⟨d1, t1, o1, rfl, hd10, hd11, rfl, ho1⟩ := hO1
    walk_at "GO"
    k_dflt (refine' Spec.use (take_spec _ _ _ _ src o1 3 _ rest ho1 (by decide) (by decide) hoffr) ?k1 ?k2 ?k3 ?k4 ?k5 ?kK ?kd ?ku ?_; (walk_at "USE"))
    intro v2 h2 tk2 news2 F2 N2 hO2
    (try k_sweep)
    (try dsimp only)
    obtain ⟨d2, t2, o2, rfl, hd20, hd21, rfl, ho2⟩ := hO2
    walk_at "GO"
    refine hold_in ?_
    refine LCg.CompSrc.range (n := d2.toNat) rfl (by assumption) (by assumption) (by assumption) (range_small hd20 hd21) (range_size hd20 hd21) (by rw [PySem.sizeLine_eq]; omega) ?_
    intro g1
    refine comp_inv (σ := LoC) (fun c => (src, c.o) :: (c.tl ++ rest)) (fun i ys c => SrcOk c.o ∧ (∀ q ∈ c.tl, q.1 ≠ src) ∧ ItemsIn c.tl ys c.xs ∧ AllB c.xs ∧ c.xs.length = i) ?_ ?_ ⟨o2, [], []⟩ ⟨ho2, (by intro _ h; cases h), trivial, (by intro _ h; cases h), rfl⟩
    · intro i ys c v J oI C oC D m₂ h tk E' hi hI hv hC hx F3 N3 off ne
      obtain ⟨o3, tl, xs⟩ := c
      dsimp only at hI N3 off
      obtain ⟨hs3, hlt3, hit3, hb3, hx3⟩ := hI
      obtain ⟨tv, rfl⟩ := hv
      have hcell' : (L' + 1, oc) ∈ (J, oI) :: (C, oC) :: (D, LCg.lst ys) :: (src, o3) :: (tl ++ rest) := .tail _ (.tail _ (.tail _ (.tail _ (List.mem_append_right _ hcell))))
      have hm := off.mem (src, o3) (.head _)
      have hoff3 : OwnOff ((J, oI) :: (C, oC) :: (D, LCg.lst ys) :: (tl ++ rest)) [src] := off_cons hm.1.symm (off_cons hm.2.1.symm (off_cons hm.2.2.symm (off_app hlt3 hoffr)))
      (try k_sweep)
      walk_at "GO"
      have N3' : News g' L' h ((src, o3) :: (J, oI) :: (C, oC) :: (D, LCg.lst ys) :: (tl ++ rest)) := news_sub N3 fun p hp => by
        rcases List.mem_cons.mp hp with rfl | hp
        · exact .tail _ (.tail _ (.tail _ (.head _)))
        rcases List.mem_cons.mp hp with rfl | hp
        · exact .head _
        rcases List.mem_cons.mp hp with rfl | hp
        · exact .tail _ (.head _)
        rcases List.mem_cons.mp hp with rfl | hp
        · exact .tail _ (.tail _ (.head _))
        · exact .tail _ (.tail _ (.tail _ (.tail _ hp)))
      clear N3
      k_dflt (refine' Spec.use (part_spec _ _ _ _ src o3 _ hs3 hoff3) ?k1 ?k2 ?k3 ?k4 ?k5 ?kK ?kd ?ku ?_; (walk_at "USE"))
      intro v4 h4 tk4 news4 F4 N4 hO4
      (try k_sweep)
      (try dsimp only)
      obtain ⟨x4, o4, tl4, hb4, hs4, rfl, hfr4, hlt4, hit4⟩ := hO4
      refine LCg.CompEnd.intro (by assumption) N4 ((src, o4) :: ((tl4 ++ tl) ++ rest)) ?_ (off3_of hfr4 off) trivial ⟨⟨o4, tl4 ++ tl, xs ++ [x4]⟩, rfl, hs4, ?_, ?_, ?_, ?_⟩
      · intro p hp
        rcases List.mem_cons.mp hp with rfl | hp
        · exact .tail _ (List.mem_append_right _ (.head _))
        rcases List.mem_cons.mp hp with rfl | hp
        · exact .tail _ (List.mem_append_right _ (.tail _ (.head _)))
        rcases List.mem_cons.mp hp with rfl | hp
        · exact .tail _ (List.mem_append_right _ (.tail _ (.tail _ (.head _))))
        rcases List.mem_cons.mp hp with rfl | hp
        · exact .head _
        rw [List.append_assoc] at hp
        rcases List.mem_append.mp hp with hp | hp
        · exact .tail _ (List.mem_append_left _ hp)
        · exact .tail _ (List.mem_append_right _ (.tail _ (.tail _ (.tail _ hp))))
      · intro q hq
        exact (List.mem_append.mp hq).elim (fun h => Nat.ne_of_gt (hlt4 q h)) (hlt3 q)
      · exact (hit3.mono fun _ h => List.mem_append_right _ h).app (ItemsIn.one (hit4.mono fun _ h => List.mem_append_left _ h))
      · intro y hy
        rcases List.mem_append.mp hy with hy | hy
        · exact hb3 y hy
        · rw [List.mem_singleton.mp hy]; exact hb4
      · rw [List.length_append, hx3]; rfl
    · intro ys c hI
      obtain ⟨o3, tl, xs⟩ := c
      dsimp only at hI
      obtain ⟨hs3, hlt3, hit3, hb3, hx3⟩ := hI
      intro D h tk F3 N3 off
      (try k_sweep)
      (try dsimp only)
      walk_at "GO"
      show At _ _ _ _ _ _ _
      dsimp only at off N3
      refine At.intro ⟨d1 == 0, o3, (D, LCg.lst ys) :: tl, D, _, ys, xs⟩ (by assumption) (news_swap (by assumption)) (by kst_all) (fun _ h => h) ⟨hs3, ?_, .head _, hit3.mono fun _ h => .tail _ h, hb3, ?_⟩
      · intro q hq
        rcases List.mem_cons.mp hq with rfl | hq
        · exact off.1.symm
        · exact hlt3 q hq
      · dsimp only; omega
  simp only [List.drop_succ_cons, List.drop_zero]
  clear F' N0
  intro c h₁ tk₁ u₁ F' N' hI
  obtain ⟨neg, o1, tl, r, n, vs, xs⟩ := c
  dsimp only [kstB] at F' N' hI
  obtain ⟨hs1, hlt1, hr1, hit1, hb1, hx1⟩ := hI
  have hcl1 : (L' + 1, oc) ∈ (src, o1) :: (tl ++ rest) := .tail _ (List.mem_append_right _ hcell)
  refine cutAt (σ := LoF) 1 g' L' (fun c => [("turned", .bool neg), ("parts", .ref r), ("first", c.v)]) (fun c => (src, c.o) :: (c.tl ++ rest)) (fun c => SrcOk c.o ∧ (∀ q ∈ c.tl, q.1 ≠ src) ∧ (∀ q ∈ tl, q ∈ c.tl) ∧ FirstIn c.tl c.v c.x) ?_ ?_
  · simp only [List.take_succ_cons, List.take_zero]
    walk_at "GO"
    rename_i z1 _ e1 z2 _ e2 z3 _ e3 z4 _ e4 z5 _ e5 z6 _ e6 z7 hz F7 N7 e7
    have hoff7 : OwnOff (tl ++ rest) [src] := off_app hlt1 hoffr
    have g1 : src < z1 := e1.1
    have g2 : src < z2 := e2.2.1
    have g3 : src < z3 := e3.2.2.1
    have g4 : src < z4 := e4.2.2.2.1
    have g5 : src < z5 := e5.2.2.2.2.1
    have g6 : src < z6 := e6.2.2.2.2.2.1
    have g7 : src < z7 := e7.2.2.2.2.2.2.1
    k_dflt (refine' Spec.use (one_spec _ _ _ _ src z7 o1 [.ref z1, .ref z2, .ref z4, .ref z6] _ _ hs1 ?n1 ?n2 ?hth ?hoff) ?k1 ?k2 ?k3 ?k4 ?k5 ?kK ?kd ?ku ?_; (case k4 => exact news_mv (l := [_, _, _, _, _, _, _]) (by k_asm)); (walk_at "USE2"); (case n1 => exact Nat.le_of_ble_eq_true rfl); (case n2 => exact Nat.le_of_ble_eq_true rfl); (case hth => exact .head _); (case hoff => exact off_cons (Nat.ne_of_gt g7) (off_cons (Nat.ne_of_gt g6) (off_cons (Nat.ne_of_gt g5) (off_cons (Nat.ne_of_gt g4) (off_cons (Nat.ne_of_gt g3) (off_cons (Nat.ne_of_gt g2) (off_cons (Nat.ne_of_gt g1) hoff7))))))))
    intro v2 h2 tk2 news2 F2 N2 hO2
    (try k_sweep)
    (try dsimp only)
    obtain ⟨i2, o2, hv2, rfl, ho2⟩ := hO2
    walk_at "GO"
    rename_i N8
    obtain ⟨tl2, x2, N9, hlt9, hsub9, hf9⟩ := first_led (tl := tl) (rest := rest) N8 hv2 g1 g2 g3 g4 g5 g6 g7 hlt1
    show At _ _ _ _ _ _ _
    exact At.intro ⟨v2, o2, tl2, x2⟩ (by assumption) N9 (by kst_all) (fun _ h => h) ⟨ho2, hlt9, hsub9, hf9⟩
  simp only [List.drop_succ_cons, List.drop_zero]
  clear F' N'
  intro c h₂ tk₂ u₂ F' N' hI
  obtain ⟨v, o2, tl2, x⟩ := c
  dsimp only [kstB] at F' N' hI
  obtain ⟨hs2, hlt2, hsub2, hf2⟩ := hI
  have hr2 := hsub2 _ hr1
  have hit2 := hit1.mono hsub2
  clear hr1 hit1 hlt1 hs1 hsub2
  have hcl2 : (L' + 1, oc) ∈ (src, o2) :: (tl2 ++ rest) := .tail _ (List.mem_append_right _ hcell)
  have hr3 : (r, listOf vs.toArray n) ∈ (src, o2) :: (tl2 ++ rest) := .tail _ (List.mem_append_left _ hr2)
  have hoff2 : OwnOff (tl2 ++ rest) [src] := off_app hlt2 hoffr
  refine cutAt (σ := LoS) 1 g' L' (fun c => [("turned", .bool neg), ("parts", .ref c.r)]) (fun c => (src, o2) :: (c.tl ++ rest)) (fun c => (∀ q ∈ c.tl, q.1 ≠ src) ∧ (c.r, listOf c.vs.toArray c.n) ∈ c.tl ∧ ItemsIn c.tl c.vs c.xs ∧ Mid c.xs) ?_ ?_
  · simp only [List.take_succ_cons, List.take_zero]
    cases x with
    | none =>
      obtain ⟨f, nf, rfl, hf⟩ := hf2
      have hf3 : (f, listOf #[] nf) ∈ (src, o2) :: (tl2 ++ rest) := .tail _ (List.mem_append_left _ hf)
      walk_at "GO"
      refine hold_in ?_
      k_dflt (refine' ne_nil (vs := []) (ds := []) ?N ?ha ?hb trivial (fun _ h => nomatch h) ?hu ?_; (case hu => exact (show un + 3 + 64 < cLine by omega)); (case N => k_asm); (case ha => exact .tail _ hf3); (case hb => exact .head _))
      walk_at "GO"
      show At _ _ _ _ _ _ _
      exact At.intro ⟨neg, o2, tl2, r, n, vs, xs⟩ (by assumption) (news_sub (by assumption) fun p hp => .tail _ hp) (by kst_all) (fun _ h => h) ⟨hlt2, hr2, hit2, .inl ⟨hb1, hx1⟩⟩
    | some x =>
      obtain ⟨hx, hfi⟩ := hf2
      have hfi' := hfi
      obtain ⟨f, T, tT, q, nf, rfl, hT, hf, hq⟩ := hfi'
      have hf3 : (f, listOf #[.str T tT, q] nf) ∈ (src, o2) :: (tl2 ++ rest) := .tail _ (List.mem_append_left _ hf)
      have hsm : (∀ d ∈ x.t, d < 128) ∧ x.lo < 128 ∧ x.hi < 128 := by rcases hx with rfl | rfl <;> decide
      obtain ⟨ds, hds, hts⟩ := hit2.rd fun y hy => basic_small (hb1 y hy)
      have hT1 : ∀ d ∈ chars T, d < 128 := by rw [hT]; exact hsm.1
      have hts0 : ∀ d ∈ [PyData.str T, datP x.lo x.hi], Tame d := fun d hd => by
        rcases List.mem_cons.mp hd with rfl | hd
        · exact tame_str hT1
        · rw [List.mem_singleton.mp hd]; exact tame_pair hsm.2.1 hsm.2.2
      have hlen := hit2.length
      walk_at "GO"
      refine hold_in ?_
      k_dflt (refine' ne_nil (vs := [.str T tT, q]) (ds := [.str T, datP x.lo x.hi]) ?N ?ha ?hb ?hr ?ht ?hu ?_; (case hu => exact (show un + 3 + 64 < cLine by omega)); (case N => k_asm); (case ha => exact .tail _ hf3); (case hb => exact .head _); (case hr => exact ⟨Rd.str, hq.rd.mono fun _ h => .tail _ (.tail _ (List.mem_append_left _ h)), trivial⟩); (case ht => exact hts0))
      walk_at "GO"
      · exact absurd (show [Value.str T tT, q].isEmpty = true by assumption) Bool.false_ne_true
      · rename (T == Str.ofString "]") = true => hend
        have e93 : x = i93 := hx.resolve_right fun e => by
          subst e
          rw [no_end hT] at hend
          exact absurd hend (by decide)
        refine hold_in ?_
        k_dflt (refine' add_K (vs := [.ref f]) (us := vs) ?F ?N ?ha ?hb ?hz ?_; (case F => k_asm); (case N => k_asm); (case ha => exact .head _); (case hb => exact .tail _ (.tail _ hr3)); (case hz => show 1 + vs.length ≤ 1000; omega))
        intro D h' F' N' l3
        k_lt l3
        (try k_sweep)
        walk_at "GO"
        show At _ _ _ _ _ _ _
        refine At.intro ⟨neg, o2, (D, listOf ([Value.ref f] ++ vs).toArray 0) :: tl2, D, 0, [Value.ref f] ++ vs, x :: xs⟩ (by assumption) (by assumption) (by kst_all) (grow_sub (mids := [_, _])) ?_
        dsimp only
        exact ⟨ne_cons (Nat.ne_of_gt l3.2.2.1) hlt2, .head _, (ItemsIn.one (hfi.mono fun _ h => .tail _ h)).app (hit2.mono fun _ h => .tail _ h), .inr (.inl ⟨xs, by rw [e93], hb1, hx1⟩)⟩
      · rename (T == Str.ofString "]") = false => hend
        refine hold_in ?_
        k_dflt (refine' eq_nil (vs := vs) (ds := ds) ?N ?ha ?hb ?hr hts ?hu ?_; (case hu => exact (show un + 3 + 64 < cLine by omega)); (case N => k_asm); (case ha => exact .tail _ (.tail _ hr3)); (case hb => exact .head _); (case hr => exact hds.mono fun _ h => .tail _ (.tail _ (.tail _ (List.mem_append_left _ h)))))
        have e45 : x = i45 := hx.resolve_left fun e => by
          subst e
          rw [is_end hT] at hend
          exact absurd hend (by decide)
        walk_at "GO"
        · rename vs.isEmpty = true => hemp
          have hvs : vs = [] := by simpa using hemp
          have hxs : xs = [] := List.eq_nil_of_length_eq_zero (by rw [← hlen, hvs]; rfl)
          refine hold_in ?_
          k_dflt (refine' add_K (vs := [.ref f]) (us := vs) ?F ?N ?ha ?hb ?hz ?_; (case F => k_asm); (case N => k_asm); (case ha => exact .head _); (case hb => exact .tail _ (.tail _ (.tail _ hr3))); (case hz => show 1 + vs.length ≤ 1000; omega))
          intro D h' F' N' l3
          k_lt l3
          (try k_sweep)
          walk_at "GO"
          show At _ _ _ _ _ _ _
          refine At.intro ⟨neg, o2, (D, listOf ([Value.ref f] ++ vs).toArray 0) :: tl2, D, 0, [Value.ref f] ++ vs, x :: xs⟩ (by assumption) (by assumption) (by kst_all) (grow_sub (mids := [_, _, _])) ?_
          dsimp only
          exact ⟨ne_cons (Nat.ne_of_gt l3.2.2.2.1) hlt2, .head _, (ItemsIn.one (hfi.mono fun _ h => .tail _ h)).app (hit2.mono fun _ h => .tail _ h), .inr (.inr (by rw [e45, hxs]))⟩
        · show At _ _ _ _ _ _ _
          exact At.intro ⟨neg, o2, tl2, r, n, vs, xs⟩ (by assumption) (news_sub (by assumption) fun p hp => .tail _ (.tail _ hp)) (by kst_all) (fun _ h => h) ⟨hlt2, hr2, hit2, .inl ⟨hb1, hx1⟩⟩
  simp only [List.drop_succ_cons, List.drop_zero]
  clear F' N'
  intro c h₂ tk₂ u₂ F' N' hI
  clear hlt2 hoff2 hcl2 hr3 hr2 hit2 hf2 hb1 hx1 hcl1
  obtain ⟨_, _, tl3, r, n, vs, xs⟩ := c
  dsimp only [kstB] at F' N' hI
  obtain ⟨hlt3, hr3, hit3, hmid⟩ := hI
  have hcl3 : (L' + 1, oc) ∈ (src, o2) :: (tl3 ++ rest) := .tail _ (List.mem_append_right _ hcell)
  have hoff3 : OwnOff (tl3 ++ rest) [src] := off_app hlt3 hoffr
  have hlen3 := hit3.length
  obtain ⟨hsm3, hl3⟩ := hmid.small
  obtain ⟨ds, hds, hts⟩ := hit3.rd hsm3
  refine cutAt (σ := LoS) 1 g' L' (fun c => [("turned", .bool neg), ("parts", .ref c.r)]) (fun c => (src, c.o) :: (c.tl ++ rest)) (fun c => SrcOk c.o ∧ (∀ q ∈ c.tl, q.1 ≠ src) ∧ (c.r, listOf c.vs.toArray c.n) ∈ c.tl ∧ ItemsIn c.tl c.vs c.xs ∧ (Drawn c.xs ∨ c.xs = [])) ?_ ?_
  · simp only [List.take_succ_cons, List.take_zero]
    walk_at "GO"
    k_dflt (refine' Spec.use (take_spec _ _ _ _ src o2 4 _ (tl3 ++ rest) hs2 (by decide) (by decide) hoff3) ?k1 ?k2 ?k3 ?k4 ?k5 ?kK ?kd ?ku ?_; (walk_at "USE"))
    intro v4 h4 tk4 news4 F4 N4 hO4
    (try k_sweep)
    (try dsimp only)
    obtain ⟨d4, t4, o4, rfl, hd40, hd41, rfl, ho4⟩ := hO4
    have hr4 : (r, listOf vs.toArray n) ∈ (src, o4) :: (tl3 ++ rest) := .tail _ (List.mem_append_left _ hr3)
    walk_at "GO"
    · refine hold_in ?_
      k_dflt (refine' ne_nil (vs := vs) (ds := ds) ?N ?ha ?hb ?hr hts ?hu ?_; (case hu => exact (show un + 3 + 64 < cLine by omega)); (case N => k_asm); (case ha => exact .tail _ hr4); (case hb => exact .head _); (case hr => exact hds.mono fun _ h => .tail _ (.tail _ (List.mem_append_left _ h))))
      walk_at "GO"
      · rename vs.isEmpty = true => hemp
        show At _ _ _ _ _ _ _
        exact At.intro ⟨neg, o4, tl3, r, n, vs, xs⟩ (by assumption) (news_sub (by assumption) fun p hp => .tail _ hp) (by kst_all) (fun _ h => h) ⟨ho4, hlt3, hr3, hit3, hmid.stay⟩
      · rename vs.isEmpty = false => hemp
        rename_i z0 _ e0 _ z1 _ e1 z2 _ e2 z3 hz F7 N7 e3
        refine hold_in ?_
        k_dflt (refine' add_K (vs := vs) (us := [.ref z2]) ?F ?N ?ha ?hb ?hz ?_; (case F => k_asm); (case N => k_asm); (case ha => exact .tail _ (.tail _ (.tail _ (.tail _ hr4)))); (case hb => exact .head _); (case hz => show vs.length + 1 ≤ 1000; omega))
        intro D h' F' N' l3
        k_lt l3
        (try k_sweep)
        walk_at "GO"
        rename_i N8
        obtain ⟨tl5, N9, hlt5, hsub5, hD5, hi5⟩ := minus_led (tl := tl3) (rest := rest) N8 l3.2.2.2.2.1 e1.2.1 e2.2.2.1 hlt3
        show At _ _ _ _ _ _ _
        exact At.intro ⟨neg, o4, tl5, D, 0, vs ++ [Value.ref z2], xs ++ [i45]⟩ (by assumption) N9 (by kst_all) (fun _ h => h) ⟨ho4, hlt5, hD5, (hit3.mono hsub5).app (ItemsIn.one hi5), .inl hmid.more⟩
    · show At _ _ _ _ _ _ _
      exact At.intro ⟨neg, o4, tl3, r, n, vs, xs⟩ (by assumption) (by assumption) (by kst_all) (fun _ h => h) ⟨ho4, hlt3, hr3, hit3, hmid.stay⟩
  simp only [List.drop_succ_cons, List.drop_zero]
  clear F' N' hcl3 hoff3
  intro c h₂ tk₂ u₂ F' N' hI
  clear hr3 hit3 hmid hlen3 hsm3 hl3 hds hts hlt3 ds hs2
  obtain ⟨_, o5, tl5, r, n, vs, xs⟩ := c
  dsimp only [kstB] at F' N' hI
  obtain ⟨hs5, hlt5, hr5, hit5, hdr⟩ := hI
  have hsm5 : ∀ x ∈ xs, (∀ d ∈ x.t, d < 128) ∧ x.lo < 128 ∧ x.hi < 128 := by
    rcases hdr with hdr | rfl
    · exact (drawn_small hdr).1
    · intro x hx; cases hx
  obtain ⟨ds, hds, hts⟩ := hit5.rd hsm5
  have hlen5 := hit5.length
  have hr6 : (r, listOf vs.toArray n) ∈ (src, o5) :: (tl5 ++ rest) := .tail _ (List.mem_append_left _ hr5)
  refine cutAt (σ := LoS) 1 g' L' (fun c => [("turned", .bool neg), ("parts", .ref c.r)]) (fun c => (src, o5) :: (c.tl ++ rest)) (fun c => (∀ q ∈ c.tl, q.1 ≠ src) ∧ (c.r, listOf c.vs.toArray c.n) ∈ c.tl ∧ ItemsIn c.tl c.vs c.xs ∧ Drawn c.xs) ?_ ?_
  · simp only [List.take_succ_cons, List.take_zero]
    walk_at "GO"
    refine hold_in ?_
    k_dflt (refine' eq_nil (vs := vs) (ds := ds) ?N ?ha ?hb ?hr hts ?hu ?_; (case hu => exact (show un + 3 + 64 < cLine by omega)); (case N => k_asm); (case ha => exact .tail _ hr6); (case hb => exact .head _); (case hr => exact hds.mono fun _ h => .tail _ (.tail _ (List.mem_append_left _ h))))
    walk_at "GO"
    · rename_i z0 _ e0 _ z1 _ e1 z2 _ e2 z3 _ e3 _ _ N8
      obtain ⟨tl6, N9, hlt6, hr7, hi7⟩ := line_led (tl := tl5) (rest := rest) N8 e1.2.1 e2.2.2.1 e3.2.2.2.1 hlt5
      show At _ _ _ _ _ _ _
      exact At.intro ⟨neg, o5, tl6, z3, 0, [Value.ref z2], [i95]⟩ (by assumption) N9 (by kst_all) (fun _ h => h) ⟨hlt6, hr7, hi7, .plain (fun x hx => by rw [List.mem_singleton.mp hx]; exact i95_basic) (show [i95] ≠ [] from List.cons_ne_nil _ _) (show 1 ≤ 3 by decide)⟩
    · rename vs.isEmpty = false => hemp
      have hne : xs ≠ [] := fun e => by
        rw [e] at hlen5
        rw [List.eq_nil_of_length_eq_zero hlen5] at hemp
        exact absurd hemp (by decide)
      show At _ _ _ _ _ _ _
      exact At.intro ⟨neg, o5, tl5, r, n, vs, xs⟩ (by assumption) (news_sub (by assumption) fun p hp => .tail _ hp) (by kst_all) (fun _ h => h) ⟨hlt5, hr5, hit5, hdr.resolve_right hne⟩
  simp only [List.drop_succ_cons, List.drop_zero]
  clear F' N'
  intro c h₂ tk₂ u₂ F' N' hI
  clear hr5 hit5 hdr hsm5 ds hds hts hlen5 hr6 hlt5
  obtain ⟨_, _, tl, r, n, vs, xs⟩ := c
  dsimp only [kstB] at F' N' hI
  obtain ⟨hlt, hr, hit, hdr⟩ := hI
  have hlen := hit.length
  obtain ⟨hsm, hl5, hne⟩ := drawn_small hdr
  have hr1 : (r, listOf vs.toArray n) ∈ (src, o5) :: (tl ++ rest) := .tail _ (List.mem_append_left _ hr)
  refine cutAt (σ := Str × Tok) 1 g' L' (fun c => [("turned", .bool neg), ("parts", .ref r), ("text", .str c.1 c.2)]) (fun c => (src, o5) :: (tl ++ rest)) (fun c => chars c.1 = textOf xs) ?_ ?_
  · simp only [List.take_succ_cons, List.take_zero]
    walk_at "GO"
    refine hold_in ?_
    refine LCg.CompSrc.ledger (its := vs.toArray) rfl F' N' hr1 (by rw [PySem.sizeLine_eq, List.size_toArray]; omega) ?_
    intro g1
    refine comp_inv (σ := Unit) (fun _ => (src, o5) :: (tl ++ rest)) (fun i ys _ => TextsAre ys (xs.take i)) ?_ ?_ () trivial
    · intro i ys _ v J oI C oC D m₂ h tk E' hi hI hv hC hx F₂ N₂ off ne
      (try dsimp only at hI N₂ off)
      obtain ⟨x, hx2, hix⟩ := hit.get (i := i) (v := v) (by simpa using hv)
      obtain ⟨p, Tp, tp, q, np, rfl, hTp, hpm, _⟩ := hix
      have hpm2 : (p, listOf #[.str Tp tp, q] np) ∈ (J, oI) :: (C, oC) :: (D, LCg.lst ys) :: (src, o5) :: (tl ++ rest) := .tail _ (.tail _ (.tail _ (.tail _ (List.mem_append_left _ hpm))))
      (try k_sweep)
      walk_at "GO"
      refine LCg.CompEnd.intro (by assumption) N₂ ((src, o5) :: (tl ++ rest)) (fun _ h => h) off (.inr ⟨_, hr1, rfl, _, rfl⟩) ⟨(), rfl, ?_⟩
      rw [take_snoc hx2]
      exact hI.snoc ⟨_, _, rfl, hTp⟩
    · intro ys _ hI
      rw [show vs.toArray.size = xs.length by rw [List.size_toArray, hlen], List.take_length] at hI
      intro D h tk F₂ N₂ off
      (try dsimp only at N₂ off)
      (try k_sweep)
      (try dsimp only)
      walk_at "GO"
      refine hold_in ?_
      obtain ⟨ts, hts, hch⟩ := hI.strs
      k_dflt (refine' join_listW (News.isList N₂ (.head _)) hts (Nat.le_of_ble_eq_true rfl) (weigh_strs hch (drawn_tail hdr).2.2.1 hl5) ?_)
      intro t' k'
      walk_at "GO"
      show At _ _ _ _ _ _ _
      refine At.intro ⟨PySem.Txt.join (Str.ofString "") ts, t'⟩ (by assumption) (news_sub (by assumption) fun p hp => .tail _ hp) (by kst_all) (fun _ h => h) ?_
      dsimp only
      rw [txt_chars, hch]; rfl
  simp only [List.drop_succ_cons, List.drop_zero]
  clear F' N'
  intro c h₂ tk₂ u₂ F' N' hI
  obtain ⟨T, tT⟩ := c
  dsimp only [kstB] at F' N' hI
  have hTl : T.length ≤ 20 := by rw [← chars_len, hI]; exact (drawn_tail hdr).2.2.1
  have key : ∀ (pre : Str) (tp : Tok) (h₃ : Heap) (tk₃ : Nat) (Q' : Value → Shared → Prop) (E' : Value → Shared → Prop) (A' : Around), pre.length ≤ 1 → (∀ t' tk', Q' (.str (pre ++ T) t') { s with heap := h₃, toks := tk' }) →
      wpAny (model PySem.Challenge.rw_nt0092_01.row.prog w) A' (binaryOp .Add (.str pre tp) (.str T tT)) Q' E' { s with heap := h₃, toks := tk₃ } := fun pre tp h₃ tk₃ Q' E' A' hp hq => add_str (fun t' tk' => hq t' tk') (by rw [PySem.sizeLine_eq]; omega)
  walk_at "GO"
  · rename neg = true => hneg
    subst hneg
    refine hold_in ?_
    k_dflt (refine' key _ _ _ _ _ _ _ (Nat.le_refl 1) ?_)
    intro t' tk'
    walk_at "GO"
    refine hold_in ?_
    refine LCg.CompSrc.ledger (its := vs.toArray) rfl (by assumption) N' hr1 (by rw [PySem.sizeLine_eq, List.size_toArray]; omega) ?_
    intro g1
    refine comp_inv (σ := Unit) (fun _ => (src, o5) :: (tl ++ rest)) (fun i ys _ => PairsL tl ys (prsOf (xs.take i))) ?_ ?_ () trivial
    · intro i ys _ v J oI C oC D m₂ h tk E' hi hI2 hv hC hx F₂ N₂ off ne
      (try dsimp only at hI2 N₂ off)
      obtain ⟨x, hx2, hix⟩ := hit.get (i := i) (v := v) (by simpa using hv)
      obtain ⟨p, Tp, tp, q, np, rfl, hTp, hpm, hpq⟩ := hix
      have hpm2 : (p, listOf #[.str Tp tp, q] np) ∈ (J, oI) :: (C, oC) :: (D, LCg.lst ys) :: (src, o5) :: (tl ++ rest) := .tail _ (.tail _ (.tail _ (.tail _ (List.mem_append_left _ hpm))))
      (try k_sweep)
      walk_at "GO"
      refine LCg.CompEnd.intro (by assumption) N₂ ((src, o5) :: (tl ++ rest)) (fun _ h => h) off (.inr ⟨_, hr1, rfl, _, rfl⟩) ⟨(), rfl, ?_⟩
      rw [take_snoc hx2, prsOf_app]
      exact hI2.snoc (p := (x.lo, x.hi)) hpq
    · intro ys _ hI2
      rw [show vs.toArray.size = xs.length by rw [List.size_toArray, hlen], List.take_length] at hI2
      intro D h tk F₂ N₂ off
      (try dsimp only at N₂ off)
      (try k_sweep)
      (try dsimp only)
      walk_at "GO"
      rename_i z _ _ _ ez kF kN _ _
      refine hret _ _ _ ((src, o5) :: (((z, listOf #[.str (Str.ofString "^" ++ T) t', .bool true, .ref D] 0) :: (D, LCg.lst ys) :: tl) ++ news)) kF (news_sub kN fun p hp => ?_) ⟨Str.ofString "^" ++ T, true, xs, o5, (z, listOf #[.str (Str.ofString "^" ++ T) t', .bool true, .ref D] 0) :: (D, LCg.lst ys) :: tl, hdr, ?_, hs5, rfl, ne_cons (Nat.ne_of_gt ez.2.1) (ne_cons off.1.symm hlt), z, D, t', _, _, ys.toArray, rfl, .head _, .tail _ (.head _), ?_⟩
      · rcases List.mem_cons.mp hp with rfl | hp
        · exact .tail _ (.tail _ (.head _))
        rcases List.mem_cons.mp hp with rfl | hp
        · exact .head _
        rcases List.mem_cons.mp hp with rfl | hp
        · exact .tail _ (.head _)
        rcases List.mem_append.mp hp with hp | hp
        · exact .tail _ (.tail _ (.tail _ (List.mem_append_left _ hp)))
        · exact .tail _ (.tail _ (.tail _ (List.mem_append_right _ (hnr _ hp))))
      · rw [chars_app, hI]; rfl
      · exact hI2.mono fun _ h => .tail _ (.tail _ h)
  · rename neg = false => hneg
    subst hneg
    refine hold_in ?_
    k_dflt (refine' key _ _ _ _ _ _ _ (Nat.zero_le 1) ?_)
    intro t' tk'
    walk_at "GO"
    refine hold_in ?_
    refine LCg.CompSrc.ledger (its := vs.toArray) rfl (by assumption) N' hr1 (by rw [PySem.sizeLine_eq, List.size_toArray]; omega) ?_
    intro g1
    refine comp_inv (σ := Unit) (fun _ => (src, o5) :: (tl ++ rest)) (fun i ys _ => PairsL tl ys (prsOf (xs.take i))) ?_ ?_ () trivial
    · intro i ys _ v J oI C oC D m₂ h tk E' hi hI2 hv hC hx F₂ N₂ off ne
      (try dsimp only at hI2 N₂ off)
      obtain ⟨x, hx2, hix⟩ := hit.get (i := i) (v := v) (by simpa using hv)
      obtain ⟨p, Tp, tp, q, np, rfl, hTp, hpm, hpq⟩ := hix
      have hpm2 : (p, listOf #[.str Tp tp, q] np) ∈ (J, oI) :: (C, oC) :: (D, LCg.lst ys) :: (src, o5) :: (tl ++ rest) := .tail _ (.tail _ (.tail _ (.tail _ (List.mem_append_left _ hpm))))
      (try k_sweep)
      walk_at "GO"
      refine LCg.CompEnd.intro (by assumption) N₂ ((src, o5) :: (tl ++ rest)) (fun _ h => h) off (.inr ⟨_, hr1, rfl, _, rfl⟩) ⟨(), rfl, ?_⟩
      rw [take_snoc hx2, prsOf_app]
      exact hI2.snoc (p := (x.lo, x.hi)) hpq
    · intro ys _ hI2
      rw [show vs.toArray.size = xs.length by rw [List.size_toArray, hlen], List.take_length] at hI2
      intro D h tk F₂ N₂ off
      (try dsimp only at N₂ off)
      (try k_sweep)
      (try dsimp only)
      walk_at "GO"
      rename_i z _ _ _ ez kF kN _ _
      refine hret _ _ _ ((src, o5) :: (((z, listOf #[.str (Str.ofString "" ++ T) t', .bool false, .ref D] 0) :: (D, LCg.lst ys) :: tl) ++ news)) kF (news_sub kN fun p hp => ?_) ⟨Str.ofString "" ++ T, false, xs, o5, (z, listOf #[.str (Str.ofString "" ++ T) t', .bool false, .ref D] 0) :: (D, LCg.lst ys) :: tl, hdr, ?_, hs5, rfl, ne_cons (Nat.ne_of_gt ez.2.1) (ne_cons off.1.symm hlt), z, D, t', _, _, ys.toArray, rfl, .head _, .tail _ (.head _), ?_⟩
      · rcases List.mem_cons.mp hp with rfl | hp
        · exact .tail _ (.tail _ (.head _))
        rcases List.mem_cons.mp hp with rfl | hp
        · exact .head _
        rcases List.mem_cons.mp hp with rfl | hp
        · exact .tail _ (.head _)
        rcases List.mem_append.mp hp with hp | hp
        · exact .tail _ (.tail _ (.tail _ (List.mem_append_left _ hp)))
        · exact .tail _ (.tail _ (.tail _ (List.mem_append_right _ (hnr _ hp))))
      · rw [chars_app, hI]; rfl
      · exact hI2.mono fun _ h => .tail _ (.tail _ h)
end Mine

end PartLO

section PartPO
open PySem PySem.W PyProof.Rows
namespace Mine
set_option maxRecDepth 100000
set_option maxHeartbeats 4000000
local macro_rules | `(tactic| walk_at "GO") => `(tactic| repeat' (first | (k_unfold; (try dsimp only)) | (walk1; (try dsimp only)) | (leave1; walk_say "STEP leave1"; try dsimp only) | fail "no step"))
local macro_rules | `(tactic| walk_at "CutQ") => `(tactic| refine cutQ_ret ?_)
local macro_rules | `(tactic| k_mem) => `(tactic| ((show (_ : Addr × Obj) ∈ (_ : List (Addr × Obj))); assumption))

/-- the law's pool of draws: a source, made new -/
def PoolOut (news : List (Addr × Obj)) (v : Value) (news' : List (Addr × Obj)) : Prop := ∃ D o, v = .ref D ∧ SrcOk o ∧ news' = (D, o) :: news ∧ (∀ p ∈ news, p.1 < D)
theorem big_ok (c : Int) (b : Bool) : 0 ≤ (if -1 - c > c then -1 - c else c) * (if b = true then 1 else 0) := by
  have h : 0 ≤ (if -1 - c > c then -1 - c else c) := by split <;> omega
  cases b with
  | true => simpa using h
  | false => simp
def PoolTells (w : World) (mean : ExcName → Option Value) (mg mb : Str → Option Value) : Prop :=
  ∀ (dp un : Nat) (gd : Option (List Code)) (cn : Str) (cs : Scope) (a : Addr) (ccd : Value) (cl : List (Str × Addr)) (outer : List Env) (A₀ : Around) (base h₀ : Heap) (L : Addr) (m : Str → Option Value) (s : Shared) (l : Addr) (vs : List Value) (ns : List Int) (k : Int) (tk0 : Tok) (news : List (Addr × Obj)) (Q E : Value → Shared → Prop),
    Below A₀ base outer h₀ → Fr h₀ L s.heap m → (hd.heap_39 w.params).In h₀ → News h₀ L s.heap news → Top hd.view_39 (looseW hd.view_39 []) mean mg mb h₀ → cs.kind = .function → base.IsList l vs.toArray → IntsAre vs ns → ns.length ≤ 63 → 0 ≤ k → k ≤ 2 → dp + 4 < recursionLimit → un + 8 * 4 < cLine →
    (∀ (v : Value) (h' : Heap) (tk' : Nat) (news' : List (Addr × Obj)), Fr h₀ L h' m → News h₀ L h' news' → PoolOut news v news' → Q v { s with heap := h', toks := tk' }) →
    wpAny (model PySem.Challenge.rw_nt0092_01.row.prog w) (ktrTop dp un gd cn cs L a ccd cl outer) (call (.ref 78) [.ref l, .int k tk0]) Q E s
theorem pool_use {w : World} {mean : ExcName → Option Value} {mg mb : Str → Option Value} {dp un : Nat} {gd : Option (List Code)} {cn : Str} {cs : Scope} {a : Addr} {ccd : Value} {cl : List (Str × Addr)} {outer : List Env} {A₀ : Around} {base h₀ : Heap} {L : Addr} {m : Str → Option Value} {s : Shared} {l : Addr} {vs : List Value} {ns : List Int} {k : Int} {tk0 : Tok} {news : List (Addr × Obj)} {Q E : Value → Shared → Prop}
    (P : PoolTells w mean mg mb) (B : Below A₀ base outer h₀) (F : Fr h₀ L s.heap m) (X : (hd.heap_39 w.params).In h₀) (N : News h₀ L s.heap news) (T : Top hd.view_39 (looseW hd.view_39 []) mean mg mb h₀) (hk : cs.kind = .function) (hl : base.IsList l vs.toArray) (hi : IntsAre vs ns) (hf : ns.length ≤ 63) (h0 : 0 ≤ k) (h2 : k ≤ 2) (hdp : dp + 4 < recursionLimit) (hun : un + 8 * 4 < cLine)
    (hret : ∀ (v : Value) (h' : Heap) (tk' : Nat) (news' : List (Addr × Obj)), Fr h₀ L h' m → News h₀ L h' news' → PoolOut news v news' → Q v { s with heap := h', toks := tk' }) :
    wpAny (model PySem.Challenge.rw_nt0092_01.row.prog w) (ktrTop dp un gd cn cs L a ccd cl outer) (call (.ref 78) [.ref l, .int k tk0]) Q E s :=
  P _ _ _ _ _ _ _ _ _ _ _ _ _ _ _ _ _ _ _ _ _ _ _ B F X N T hk hl hi hf h0 h2 hdp hun hret
theorem pool_tells (w : World) (mean : ExcName → Option Value) (mg mb : Str → Option Value) : PoolTells w mean mg mb := by
  unfold PoolTells
  w_top off
  k_fill
  intro dp un gd cn cs a ccd cl outer A₀ base h₀ L m s l vs ns k tk0 news Q E B F X N T hk hl hi hfit h0 h2 hd hu hret
  refine wpAny_call ?_
  k_dflt cell_enter
  have mk := kstMark
  rename_i g' L' h' FG' F' N' B' X' T''
  refine rebase [("script", .ref l), ("k", .int k tk0)] F' (by kst_all) ?_
  clear F'
  intro u F'
  dsimp only [kstB] at F'
  refine cutAt (σ := Int × Tok) 2 g' L' (fun c => [("script", .ref l), ("k", .int k tk0), ("cell", .int c.1 c.2)]) (fun _ => news) (fun _ => True) ?_ ?_
  · simp only [List.take_succ_cons, List.take_zero]
    walk_at "GO"
    · show At _ _ _ _ _ _ _
      exact At.intro ⟨_, _⟩ (by assumption) (by assumption) (by kst_all) (fun _ h => h) trivial
    · show At _ _ _ _ _ _ _
      exact At.intro ⟨_, _⟩ (by assumption) (by assumption) (by kst_all) (fun _ h => h) trivial
  simp only [List.drop_succ_cons, List.drop_zero]
  clear F' N'
  intro c h₁ tk₁ u₁ F' N' _
  obtain ⟨cell, tc⟩ := c
  dsimp only [kstB] at F'
  walk_at "GO"
  have q := fmod_ok ((((if -1 - cell > cell then -1 - cell else cell).fmod 2147483629 + 7919 * k * k + 31 * k + 17) * 48271))
  exact hret _ _ _ _ (by assumption) (by assumption) ⟨_, _, rfl, ⟨_, _, _, _, _, rfl, big_ok cell _, q.1, q.2⟩, rfl, by assumption⟩
end Mine

end PartPO

section PartLW
open PySem PySem.W PyProof.Rows
namespace Mine
set_option maxRecDepth 100000
set_option maxHeartbeats 4000000
local macro_rules | `(tactic| walk_at "GO") => `(tactic| repeat' (first | (k_unfold; (try dsimp only)) | (walk1; (try dsimp only)) | (leave1; walk_say "STEP leave1"; try dsimp only) | fail "no step"))
local macro_rules | `(tactic| walk_at "LoopQ") => `(tactic| refine loopQ_ret ?_)
local macro_rules | `(tactic| walk_at "CutQ") => `(tactic| refine cutQ_ret ?_)
local macro_rules | `(tactic| k_mem) => `(tactic| ((show (_ : Addr × Obj) ∈ (_ : List (Addr × Obj))); assumption))
local macro_rules | `(tactic| walk_at "USE") => `(tactic| ((case k1 => k_asm); (case k2 => k_asm); (case k3 => k_asm); (case k4 => first | k_asm | exact news_swap (by k_asm)); (case k5 => k_asm); (case kK => first | exact rfl | assumption); (case kd => ktr_room); (case ku => ktr_units)))
local macro_rules | `(tactic| walk_at "call ref") => `(tactic| (k_here; refine hold_out ?_))
local macro_rules | `(tactic| walk_at "binaryOp Add str str") => `(tactic| (k_here; refine hold_out ?_))
local macro_rules | `(tactic| walk_at "subscriptTail Name Constant ref int") => `(tactic| (k_here; (with_reducible show wpAny _ _ (subscriptTail _ _ (Value.ref _) (Value.int 0 _)) _ _ _); k_dflt (refine' item0 ?kl ?_; (case kl => exact News.isList (by k_asm) (by k_mem)); k_whole)))
theorem add_fit {prog : Program} {w : World} {A : Around} {E : Value → Shared → Prop} {s : Shared} {x y : Str} {t u : Tok} {Q : Value → Shared → Prop} (hl : x.length + y.length ≤ 1000) (h : ∀ t' tk, Q (.str (x ++ y) t') { s with toks := tk }) : wpAny (model prog w) A (binaryOp .Add (.str x t) (.str y u)) Q E s :=
  add_str h (by rw [PySem.sizeLine_eq]; omega)
theorem range4_small {d : Int} (h0 : 0 ≤ d) (h1 : d ≤ 4) : Builtin.Range.small 0 d 1 = true := by
  obtain rfl | rfl | rfl | rfl | rfl : d = 0 ∨ d = 1 ∨ d = 2 ∨ d = 3 ∨ d = 4 := by omega
  all_goals decide
theorem range4_size {d : Int} (h0 : 0 ≤ d) (h1 : d ≤ 4) : Builtin.Range.rangeSize 0 d 1 = ((d.toNat : Nat) : Int) := by
  obtain rfl | rfl | rfl | rfl | rfl : d = 0 ∨ d = 1 ∨ d = 2 ∨ d = 3 ∨ d = 4 := by omega
  all_goals decide
/-- how many turns the law's loop has -/
def turns (n : Nat) : Int := if (if 3 < (n : Int) then 3 else (n : Int)) > 1 then if 3 < (n : Int) then 3 else (n : Int) else 1
theorem turns_ok (n : Nat) : 0 ≤ turns n ∧ turns n ≤ 3 := by
  unfold turns
  split <;> split <;> omega
theorem law_holds : PySem.Challenge.rw_nt0092_01.Holds := hd (by
  w_top off
  k_go0
  (all_goals try k_fold)
  rename_i w s₀ s₁ mg mb _ _ fa _ _ _ _ _ _ X _ _ _ T _ _ _ _ _ _ cd _ _ ns _ _ _ _ _ _ _ l vs _ hL _ _ _ hI _ hlen _ B hD h₁ F N0
  have mk := kstMark
  dsimp only at F hlen ⊢
  refine rebase [("script", .ref l)] F (by kst_all) ?_
  clear F
  intro u F
  dsimp only [kstB] at F
  refine wpAny_execs_cons ?_
  with_reducible refine for_range (g := s₁.heap) (L := s₁.heap.objs.size) (σ := Unit) (news := []) (m := fun z => if z = Str.ofString "script" then some (.ref l) else u z) 3 (fun _ => [("script", .ref l)]) (fun _ => []) (fun _ => True) () ?hL ?hx ?hpk ?hp ?hl ?hi ?hit ?turn ?done ?hh ?hs ?hE
  case hL => rfl
  case hx => rfl
  case hpk => rfl
  case hp => kst_all
  case hl => exact fun _ h => h
  case hi => trivial
  case hh => rfl
  case hs => intro _; rfl
  case hE => passes_own
  case hit =>
    walk_at "GO"
    have q := turns_ok ns.length
    refine EvR.intro (b := turns ns.length) (turns ns.length).toNat (by assumption) (by assumption) (by assumption) (range4_small q.1 (by omega)) (range4_size q.1 (by omega)) (by omega)
  case turn =>
    clear F N0
    intro i _ J t o h tk u hi _ _ F N0
    dsimp only [kstB] at F
    refine cutAt (σ := Addr × Obj) 1 s₁.heap s₁.heap.objs.size (fun c => [("script", .ref l), ("source", .ref c.1)]) (fun c => [c, (J, o)]) (fun c => SrcOk c.2 ∧ J ≠ c.1) ?_ ?_
    · simp only [List.take_succ_cons, List.take_zero]
      walk_at "GO"
      refine hold_in ?_
      k_dflt (refine' pool_use (pool_tells _ _ _ _) ?k1 ?k2 ?k3 ?k4 ?k5 ?kK hL hI ?hf ?h0 ?h2 ?kd ?ku ?_; (walk_at "USE"); (case hf => omega); (case h0 => omega); (case h2 => omega))
      intro v2 h2 tk2 news2 F2 N2 hO2
      (try k_sweep)
      (try dsimp only)
      obtain ⟨D, o2, rfl, ho2, rfl, hlt2⟩ := hO2
      walk_at "GO"
      show At _ _ _ _ _ _ _
      exact At.intro ⟨D, o2⟩ (by assumption) (by assumption) (by kst_all) (fun _ h => h) ⟨ho2, Nat.ne_of_lt (hlt2 _ (.head _))⟩
    simp only [List.drop_succ_cons, List.drop_zero]
    clear F N0
    intro c h₃ tk₃ u₃ F N hIc
    obtain ⟨D, oD⟩ := c
    dsimp only [kstB] at F N hIc
    refine wpAny_execs_cons ?_
    with_reducible refine for_range (g := s₁.heap) (L := s₁.heap.objs.size) (σ := Obj) (news := [(D, oD), (J, o)]) (m := fun z => if z = Str.ofString "script" then some (.ref l) else if z = Str.ofString "source" then some (.ref D) else u₃ z) 4 (fun _ => [("script", .ref l), ("source", .ref D)]) (fun c => [(D, c), (J, o)]) (fun c => SrcOk c) oD ?hLZ ?hxZ ?hpkZ ?hpZ ?hlZ ?hiZ ?hitZ ?turnZ ?doneZ ?hhZ ?hsZ ?hEZ
    case hLZ => rfl
    case hxZ => rfl
    case hpkZ => rfl
    case hpZ => kst_all
    case hlZ => exact fun _ h => h
    case hiZ => exact hIc.1
    case hhZ => rfl
    case hsZ => intro _; rfl
    case hEZ => passes_own
    case hitZ =>
      walk_at "GO"
      refine EvR.intro (b := 4) 4 (by assumption) (by assumption) (by assumption) (by decide) (by decide) (by omega)
    case turnZ =>
      clear F N
      intro i2 c J2 t2 o2 h2 tk2 u2 hi2 hoff2 hc F N
      dsimp only [kstB] at F
      walk_at "GO"
      refine hold_in ?_
      have hDJ2 : D ≠ J2 := hoff2 (D, c) (.head _) J2 (.head _)
      have hJJ2 : J ≠ J2 := hoff2 (J, o) (.tail _ (.head _)) J2 (.head _)
      have hoffD : OwnOff [(J2, o2), (J, o)] [D] := off_cons hDJ2.symm (off_cons hIc.2 (off_ne fun _ h => nomatch h))
      k_dflt (refine' Spec.use (lot_spec _ _ _ _ D c [(J2, o2), (J, o)] hc hoffD) ?k1 ?k2 ?k3 ?k4 ?k5 ?kK ?kd ?ku ?_; (walk_at "USE"))
      intro v3 h3 tk3 news3 F3 N3 hO3
      (try k_sweep)
      (try dsimp only)
      obtain ⟨T3, neg, xs, o3, tl, hdr, hT3, ho3, rfl, hlt3, hlot⟩ := hO3
      obtain ⟨lt, pl, tT, n3, k3, refs, rfl, hm1, hm2, hps⟩ := hlot
      have htext := drawn_text hdr hT3
      have hlen1 : (Str.ofString "[" ++ T3).length ≤ 1000 := by
        rw [len_app]
        have e1 : (Str.ofString "[").length = 1 := rfl
        have e2 := htext.short
        omega
      obtain ⟨hsm, hl5, hne⟩ := drawn_small hdr
      have hm1' : (lt, listOf #[.str T3 tT, .bool neg, .ref pl] n3) ∈ (D, o3) :: (tl ++ [(J2, o2), (J, o)]) := .tail _ (List.mem_append_left _ hm1)
      have hm2' : (pl, listOf refs k3) ∈ (D, o3) :: (tl ++ [(J2, o2), (J, o)]) := .tail _ (List.mem_append_left _ hm2)
      have hps' : PairsL ((D, o3) :: (tl ++ [(J2, o2), (J, o)])) refs.toList (prsOf xs) := hps.mono fun _ h => .tail _ (List.mem_append_left _ h)
      have hb : ∀ p ∈ prsOf xs, p.1 < 128 ∧ p.2 < 128 := fun p hp => by
        obtain ⟨x, hx, rfl⟩ := List.mem_map.mp hp
        exact (hsm x hx).2
      have hsz : refs.size ≤ 1000 := by
        have e := hps.length
        rw [Array.length_toList] at e
        have e2 : (prsOf xs).length = xs.length := by simp [prsOf]
        omega
      obtain ⟨led, hled⟩ : ∃ l, l = (D, o3) :: (tl ++ [(J2, o2), (J, o)]) := ⟨_, rfl⟩
      rw [← hled] at hm1' hm2' hps' N3
      walk_at "GO"
      refine hold_in ?_
      k_dflt (refine' Spec.use (lot_right_spec _ _ _ _ lt pl T3 tT neg n3 k3 refs (prsOf xs) led hm1' hm2' hps' hb hsz htext) ?k1 ?k2 ?k3 ?k4 ?k5 ?kK ?kd ?ku ?_; (walk_at "USE"))
      intro v4 h4 tk4 news4 F4 N4 hO4
      (try k_sweep)
      (try dsimp only)
      obtain ⟨rfl, e4⟩ := hO4
      subst e4
      walk_at "GO"
      refine hold_in ?_
      k_dflt (refine' add_fit (by have e1 : (Str.ofString "a[").length = 2 := rfl; have e2 := htext.short; omega) ?_)
      intro _ _
      walk_at "GO"
      refine hold_in ?_
      k_dflt (refine' Spec.use (glob_aopen _ _ _ _ _ _ _ htext (by rw [chars_app]; rfl) (by decide)) ?k1 ?k2 ?k3 ?k4 ?k5 ?kK ?kd ?ku ?_; (walk_at "USE"))
      intro v5 h5 tk5 news5 F5 N5 hO5
      (try k_sweep)
      (try dsimp only)
      obtain ⟨rfl, e5⟩ := hO5
      subst e5
      walk_at "GO"
      refine hold_in ?_
      k_dflt (refine' add_fit (by have e1 : (Str.ofString "[").length = 1 := rfl; have e2 := htext.short; omega) ?_)
      intro _ _
      walk_at "GO"
      refine hold_in ?_
      k_dflt (refine' Spec.use (glob_open _ _ _ _ _ _ _ htext (by rw [chars_app]; rfl) (by decide)) ?k1 ?k2 ?k3 ?k4 ?k5 ?kK ?kd ?ku ?_; (walk_at "USE"))
      intro v6 h6 tk6 news6 F6 N6 hO6
      (try k_sweep)
      (try dsimp only)
      obtain ⟨rfl, e6⟩ := hO6
      subst e6
      walk_at "GO"
      refine hold_in ?_
      k_dflt (refine' add_fit (by have e1 : (Str.ofString "[").length = 1 := rfl; have e2 := htext.short; omega) ?_)
      intro _ _
      walk_at "GO"
      refine hold_in ?_
      k_dflt (refine' add_fit (by have e1 : (Str.ofString "[").length = 1 := rfl; have e2 := htext.short; omega) ?_)
      intro _ _
      walk_at "GO"
      refine hold_in ?_
      k_dflt (refine' Spec.use (glob_open _ _ _ _ _ _ _ htext (by rw [chars_app]; rfl) hlen1) ?k1 ?k2 ?k3 ?k4 ?k5 ?kK ?kd ?ku ?_; (walk_at "USE"))
      intro v7 h7 tk7 news7 F7 N7 hO7
      (try k_sweep)
      (try dsimp only)
      obtain ⟨rfl, e7⟩ := hO7
      subst e7
      walk_at "GO"
      show At _ _ _ _ _ _ _
      refine At.intro o3 (by assumption) (by assumption) (by kst_all) (fun p hp => ?_) ⟨ho3, off_cons hDJ2 (off_cons hJJ2 (off_ne fun _ h => nomatch h))⟩
      rw [hled]
      rcases List.mem_cons.mp hp with rfl | hp
      · exact .tail _ (List.mem_append_right _ (.head _))
      rcases List.mem_cons.mp hp with rfl | hp
      · exact .head _
      rw [List.mem_singleton.mp hp]
      exact .tail _ (List.mem_append_right _ (.tail _ (.head _)))
    case doneZ =>
      clear F N
      intro c h tk u hc F N
      dsimp only [kstB] at F
      dsimp only
      (try k_fold)
      walk_at "GO"
      show At _ _ _ _ _ _ _
      exact At.intro () (by assumption) (by assumption) (by kst_all) (fun p hp => .tail _ hp) ⟨trivial, fun _ h => nomatch h⟩
  case done =>
    clear F N0
    intro _ h tk u _ F N0
    dsimp only [kstB] at F
    dsimp only
    (try k_fold)
    walk_at "GO"
    k_end
    wrow_close)
end Mine

end PartLW

theorem PySem.Challenge.cw_nt0092_01_holds : PySem.Challenge.rw_nt0092_01.Holds := by
  exact Mine.law_holds
