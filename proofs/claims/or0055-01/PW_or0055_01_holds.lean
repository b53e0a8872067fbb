import PyProof.Rows.All
import Wide.All
import OpenK.AllK
import Wide.FinOn
import PySem.Challenge.RW_or0055_01
set_option Elab.async false
set_option linter.all false
section
set_option maxRecDepth 100000
namespace Mine
open PySem PySem.W
theorem ints_inj {b c : Array UInt8} (h : KBw.bInts b = KBw.bInts c) : b = c := by
  have z : b.toList = c.toList := by
    refine (List.map_inj_right (f := fun x : UInt8 => ((x.toNat : Nat) : Int)) ?_).mp h
    intro x y e
    have : x.toNat = y.toNat := by
      have e' : ((x.toNat : Nat) : Int) = ((y.toNat : Nat) : Int) := e
      omega
    exact UInt8.toNat_inj.mp this
  exact Array.toList_inj.mp z
theorem bne_ints (b c : Array UInt8) : (b.toList != c.toList) = (KBw.bInts b != KBw.bInts c) := by
  by_cases h : b = c
  · subst h
    simp
  · have h1 : b.toList ≠ c.toList := fun e => h (Array.toList_inj.mp e)
    have h2 : KBw.bInts b ≠ KBw.bInts c := fun e => h (ints_inj e)
    rw [bne_iff_ne.mpr h1, bne_iff_ne.mpr h2]
theorem clip_in {n : Nat} {k : Int} (h0 : 0 ≤ k) (h1 : k ≤ n) : clipAt n k = k.toNat := by
  unfold clipAt
  rw [if_neg (by omega)]
  omega
theorem clip_next {n : Nat} {k : Int} (h0 : 0 ≤ k) (h1 : k ≤ n) : clipAt n (k + 1) = min (k.toNat + 1) n := by
  unfold clipAt
  rw [if_neg (by omega)]
  omega
theorem take_one (ks : List Int) (i : Nat) : (ks.drop i).take (min (i + 1) ks.length - i) = ks[i]?.toList := by
  by_cases h : i < ks.length
  · have e : min (i + 1) ks.length - i = 1 := by omega
    rw [e, List.drop_eq_getElem_cons h, List.take_succ_cons, List.take_zero, List.getElem?_eq_getElem h]
    rfl
  · rw [List.drop_eq_nil_of_le (by omega), List.take_nil, List.getElem?_eq_none (by omega)]
    rfl
theorem cut_one {b : Array UInt8} {ks : List Int} {k : Int} (hk0 : 0 ≤ k) (hk1 : k ≤ (ks.length : Int))
    (e : KBw.bInts b = List.take (clipAt ks.length (k + 1) - clipAt ks.length k) (List.drop (clipAt ks.length k) ks)) :
    (b.toList != [34]) = (ks[k.toNat]? != some 34) := by
  rw [clip_in hk0 hk1, clip_next hk0 hk1, take_one] at e
  show (b.toList != (#[34] : Array UInt8).toList) = _
  rw [bne_ints, e]
  show (ks[k.toNat]?.toList != [34]) = _
  cases ks[k.toNat]? with
  | none => rfl
  | some c =>
    by_cases h : c = 34
    · subst h; rfl
    · rw [bne_iff_ne.mpr (by simp [h]), bne_iff_ne.mpr (by simp [h])]
def scan : List Int → Nat → List Int → Except Nat (List Int × Nat)
  | [], i, _ => .error i
  | c :: t, i, acc =>
    if c = 34 then .ok (acc, i + 1)
    else if c = 92 then
      match t with
      | [] => .error (i + 1)
      | d :: t' => if d = 34 ∨ d = 92 then scan t' (i + 2) (acc ++ [d]) else .error (i + 1)
    else if c < 1 ∨ c > 127 ∨ c = 13 ∨ c = 10 then .error i
    else scan t (i + 1) (acc ++ [c])
def parse (ks : List Int) (i : Nat) : Except Nat (List Int × Nat) := if ks[i]? = some 34 then scan (ks.drop (i + 1)) (i + 1) [] else .error i
theorem scan_end {ks : List Int} {i : Nat} {acc : List Int} (h : ks.length ≤ i) : scan (ks.drop i) i acc = .error i := by
  rw [List.drop_eq_nil_of_le h]; rfl
theorem drop_get {ks : List Int} {i : Nat} {c : Int} (h : ks[i]? = some c) : ks.drop i = c :: ks.drop (i + 1) := by
  obtain ⟨hi, rfl⟩ := List.getElem?_eq_some_iff.mp h
  exact List.drop_eq_getElem_cons hi
theorem scan_quote {ks : List Int} {i : Nat} {acc : List Int} (h : ks[i]? = some 34) : scan (ks.drop i) i acc = .ok (acc, i + 1) := by
  rw [drop_get h, scan.eq_def]; rfl
theorem scan_plain {ks : List Int} {i : Nat} {acc : List Int} {c : Int} (h : ks[i]? = some c) (h1 : c ≠ 34) (h2 : c ≠ 92) (h3 : ¬ (c < 1 ∨ c > 127 ∨ c = 13 ∨ c = 10)) :
    scan (ks.drop i) i acc = scan (ks.drop (i + 1)) (i + 1) (acc ++ [c]) := by
  rw [drop_get h, scan.eq_def]
  simp only [if_neg h1, if_neg h2, if_neg h3]
theorem scan_bad {ks : List Int} {i : Nat} {acc : List Int} {c : Int} (h : ks[i]? = some c) (h1 : c ≠ 34) (h2 : c ≠ 92) (h3 : c < 1 ∨ c > 127 ∨ c = 13 ∨ c = 10) :
    scan (ks.drop i) i acc = .error i := by
  rw [drop_get h, scan.eq_def]
  simp only [if_neg h1, if_neg h2, if_pos h3]
theorem scan_esc {ks : List Int} {i : Nat} {acc : List Int} {d : Int} (h : ks[i]? = some 92) (hd : ks[i + 1]? = some d) (h1 : d = 34 ∨ d = 92) :
    scan (ks.drop i) i acc = scan (ks.drop (i + 2)) (i + 2) (acc ++ [d]) := by
  rw [drop_get h, drop_get hd, scan.eq_def]
  simp only [if_pos h1]
  rfl
theorem scan_esc_bad {ks : List Int} {i : Nat} {acc : List Int} (h : ks[i]? = some 92) (hd : ∀ d, ks[i + 1]? = some d → ¬ (d = 34 ∨ d = 92)) :
    scan (ks.drop i) i acc = .error (i + 1) := by
  rw [drop_get h, scan.eq_def]
  cases q : ks[i + 1]? with
  | none =>
    rw [List.drop_eq_nil_of_le (List.getElem?_eq_none_iff.mp q)]
    rfl
  | some d =>
    rw [drop_get q]
    simp only [if_neg (hd d q)]
    rfl
def peekAt (ks : List Int) (k : Int) : Int := if k < (ks.length : Int) then ks.getD k.toNat 0 else -1
theorem peek_get {ks : List Int} {j : Int} (h0 : 0 ≤ j) (hj : j < (ks.length : Int)) : ks[j.toNat]? = some (peekAt ks j) := by
  unfold peekAt
  rw [if_pos hj]
  have : j.toNat < ks.length := by omega
  simp [this]
theorem peek_lt {ks : List Int} {j : Int} (hc : peekAt ks j ≠ -1) : j < (ks.length : Int) := by
  by_cases h : j < (ks.length : Int)
  · exact h
  · exact absurd (if_neg h) hc
theorem get_peek {ks : List Int} {j d : Int} (h0 : 0 ≤ j) (h : ks[j.toNat]? = some d) : peekAt ks j = d := by
  have hj := (List.getElem?_eq_some_iff.mp h).1
  have := (peek_get h0 (ks := ks) (by omega)).symm.trans h
  exact Option.some.inj this
theorem toNat_next {j : Int} (h0 : 0 ≤ j) : (j + 1).toNat = j.toNat + 1 := by omega
theorem scan_fail {ks : List Int} {j : Int} {acc : List Int} (h0 : 0 ≤ j) (h1 : peekAt ks j ≠ 34) (h2 : peekAt ks j ≠ 92) (h3 : peekAt ks j < 1 ∨ peekAt ks j > 127 ∨ peekAt ks j = 13 ∨ peekAt ks j = 10) :
    scan (ks.drop j.toNat) j.toNat acc = .error j.toNat := by
  by_cases hj : j < (ks.length : Int)
  · exact scan_bad (peek_get h0 hj) h1 h2 h3
  · exact scan_end (by omega)
theorem scan_done {ks : List Int} {j : Int} {acc : List Int} (h0 : 0 ≤ j) (h1 : peekAt ks j = 34) : scan (ks.drop j.toNat) j.toNat acc = .ok (acc, j.toNat + 1) :=
  scan_quote (h1 ▸ peek_get h0 (peek_lt (by omega)))
theorem scan_go {ks : List Int} {j : Int} {acc : List Int} (h0 : 0 ≤ j) (h1 : peekAt ks j ≠ 34) (h2 : peekAt ks j ≠ 92) (h3 : ¬ (peekAt ks j < 1 ∨ peekAt ks j > 127 ∨ peekAt ks j = 13 ∨ peekAt ks j = 10)) :
    scan (ks.drop j.toNat) j.toNat acc = scan (ks.drop (j + 1).toNat) (j + 1).toNat (acc ++ [peekAt ks j]) := by
  rw [toNat_next h0]
  exact scan_plain (peek_get h0 (peek_lt (by omega))) h1 h2 h3
theorem scan_two {ks : List Int} {j : Int} {acc : List Int} (h0 : 0 ≤ j) (h1 : peekAt ks j = 92) (h2 : peekAt ks (j + 1) = 34 ∨ peekAt ks (j + 1) = 92) :
    scan (ks.drop j.toNat) j.toNat acc = scan (ks.drop (j + 1 + 1).toNat) (j + 1 + 1).toNat (acc ++ [peekAt ks (j + 1)]) := by
  rw [toNat_next (by omega), toNat_next h0]
  have e := peek_get (ks := ks) (j := j + 1) (by omega) (peek_lt (by omega))
  rw [toNat_next h0] at e
  exact scan_esc (h1 ▸ peek_get h0 (peek_lt (by omega))) e h2
theorem scan_two_fail {ks : List Int} {j : Int} {acc : List Int} (h0 : 0 ≤ j) (h1 : peekAt ks j = 92) (h2 : peekAt ks (j + 1) ≠ 34) (h3 : peekAt ks (j + 1) ≠ 92) :
    scan (ks.drop j.toNat) j.toNat acc = .error (j + 1).toNat := by
  rw [toNat_next h0]
  refine scan_esc_bad (h1 ▸ peek_get h0 (peek_lt (by omega))) fun d hd => ?_
  rw [← toNat_next h0] at hd
  have := get_peek (by omega) hd
  omega
theorem ints_push {b : Array UInt8} {c : Int} (h0 : 0 ≤ c) (h1 : c < 256) : KBw.bInts (b.push c.toNat.toUInt8) = KBw.bInts b ++ [c] := by
  have e : ((c.toNat.toUInt8).toNat : Int) = c := by
    have h1 : (c.toNat.toUInt8).toNat = c.toNat := by
      first
        | (show (UInt8.ofNat c.toNat).toNat = c.toNat; rw [UInt8.toNat_ofNat']; omega)
        | (simp; omega)
    rw [h1]
    omega
  unfold KBw.bInts
  rw [Array.toList_push, List.map_append, List.map_cons, List.map_nil, e]
theorem peek_in {r : Array UInt8} {ks : List Int} (hb : KBw.bInts r = ks) (j : Int) : -1 ≤ peekAt ks j ∧ peekAt ks j < 256 := by
  unfold peekAt
  split
  · rename_i h
    rw [List.getD_eq_getElem?_getD]
    cases q : ks[j.toNat]? with
    | none => decide
    | some c =>
      subst hb
      have := KBw.ints_in (List.mem_of_getElem? q)
      show -1 ≤ c ∧ c < 256
      omega
  · decide
end Mine
end
section
set_option maxRecDepth 100000
namespace Mine
open PySem PySem.W
def okc (c : Int) : Prop := ¬ (c < 1 ∨ c > 127 ∨ c = 13 ∨ c = 10)
def esc' (c : Int) : List Int := if c = 34 ∨ c = 92 then [92, c] else [c]
theorem scan_cons (c : Int) (t : List Int) (i : Nat) (acc : List Int) : scan (c :: t) i acc = if c = 34 then .ok (acc, i + 1)
    else if c = 92 then
      match t with
      | [] => .error (i + 1)
      | d :: t' => if d = 34 ∨ d = 92 then scan t' (i + 2) (acc ++ [d]) else .error (i + 1)
    else if c < 1 ∨ c > 127 ∨ c = 13 ∨ c = 10 then .error i
    else scan t (i + 1) (acc ++ [c]) := by rw [scan.eq_def] <;> rfl
theorem scan_quoted : ∀ (q : List Int), (∀ c ∈ q, okc c) → ∀ (rest : List Int) (i : Nat) (acc : List Int), scan (q.flatMap esc' ++ 34 :: rest) i acc = .ok (acc ++ q, i + (q.flatMap esc').length + 1)
  | [], _, rest, i, acc => by
    rw [List.flatMap_nil, List.nil_append, scan_cons, if_pos rfl, List.append_nil]
    rfl
  | c :: t, h, rest, i, acc => by
    have hc := h c (.head _)
    have ht : ∀ c ∈ t, okc c := fun x hx => h x (.tail _ hx)
    rw [List.flatMap_cons]
    by_cases hq : c = 34 ∨ c = 92
    · have e : esc' c = [92, c] := if_pos hq
      rw [e, List.append_assoc]
      show scan (92 :: c :: (t.flatMap esc' ++ 34 :: rest)) i acc = _
      rw [scan_cons, if_neg (by decide), if_pos rfl]
      dsimp only
      rw [if_pos hq, scan_quoted t ht rest (i + 2) (acc ++ [c])]
      congr 2
      · simp
      · simp only [List.length_append, List.length_cons, List.length_nil]
        omega
    · have e : esc' c = [c] := if_neg hq
      rw [e, List.append_assoc]
      show scan (c :: (t.flatMap esc' ++ 34 :: rest)) i acc = _
      rw [scan_cons, if_neg (fun z => hq (.inl z)), if_neg (fun z => hq (.inr z)), if_neg hc, scan_quoted t ht rest (i + 1) (acc ++ [c])]
      congr 2
      · simp
      · simp only [List.length_append, List.length_cons, List.length_nil]
        omega
theorem scan_okc : ∀ (n : Nat) (l : List Int) (i : Nat) (acc q : List Int) (e : Nat), l.length ≤ n → scan l i acc = .ok (q, e) → (∀ c ∈ acc, okc c) → (∀ c ∈ q, okc c) ∧ q.length ≤ acc.length + l.length := by
  intro n
  induction n with
  | zero =>
    intro l i acc q e hl h _
    obtain rfl : l = [] := List.length_eq_zero_iff.mp (Nat.le_zero.mp hl)
    cases h
  | succ n ih =>
    intro l i acc q e hl h ha
    cases l with
    | nil => cases h
    | cons c t =>
      rw [scan_cons] at h
      rw [List.length_cons] at hl ⊢
      split at h
      · cases h
        exact ⟨ha, by omega⟩
      · split at h
        · cases t with
          | nil => cases h
          | cons d t' =>
            dsimp only at h
            rw [List.length_cons] at hl ⊢
            split at h
            · rename_i hd
              have z := ih t' _ _ q e (by omega) h (fun x hx => by
                rcases List.mem_append.mp hx with hx | hx
                · exact ha x hx
                · rw [List.mem_singleton.mp hx]
                  unfold okc
                  omega)
              rw [List.length_append, List.length_singleton] at z
              exact ⟨z.1, by omega⟩
            · cases h
        · split at h
          · cases h
          · rename_i hok
            have z := ih t _ _ q e (by omega) h (fun x hx => by
              rcases List.mem_append.mp hx with hx | hx
              · exact ha x hx
              · rw [List.mem_singleton.mp hx]
                exact hok)
            rw [List.length_append, List.length_singleton] at z
            exact ⟨z.1, by omega⟩
theorem parse_okc {ks : List Int} {i : Nat} {q : List Int} {e : Nat} (h : parse ks i = .ok (q, e)) : (∀ c ∈ q, okc c) ∧ q.length ≤ ks.length := by
  unfold parse at h
  split at h
  · have z := scan_okc _ _ _ _ _ _ (Nat.le_refl _) h (fun c hc => nomatch hc)
    refine ⟨z.1, Nat.le_trans z.2 ?_⟩
    simp
  · cases h
theorem parse_again {q : List Int} (h : ∀ c ∈ q, okc c) (rest : List Int) : parse (34 :: (q.flatMap esc' ++ [34]) ++ rest) 0 = .ok (q, (34 :: (q.flatMap esc' ++ [34])).length) := by
  unfold parse
  rw [if_pos (by rfl)]
  show scan ((q.flatMap esc' ++ [34]) ++ rest) 1 [] = _
  rw [List.append_assoc]
  show scan (q.flatMap esc' ++ 34 :: rest) 1 [] = _
  rw [scan_quoted q h rest 1 []]
  congr 2
  simp only [List.length_cons, List.length_append, List.length_nil]
  omega
end Mine
end
section
set_option maxRecDepth 100000
namespace Mine
open PySem PySem.W PySem.Calls PyProof.Rows
open Sem (wp)
/- The clean logic: as wpAny and codeAny, but for the contexts in whose stack no built-in holds a bytearray's octets. -/
def heldIds : List String := ["bytearray.__contains__", "bytearray.__mod__", "bytearray.__rmod__", "_struct.pack_into.held", "bytearray.find.held"] ++ Builtin.Bytes.decodersThatHold
def holdsBa : Code → Bool
  | .builtin id _ => heldIds.contains id
  | _ => false
def CleanL (l : List (Code × Pos)) : Prop := ∀ x ∈ l, holdsBa x.1 = false
def wpC {α : Type} (M : Model) (A : Around) (t : Sem α) (Q : α → Shared → Prop) (E : Value → Shared → Prop) (s : Shared) : Prop :=
  ∀ Γ p, Γ.In A → holdsBa Γ.code = false → CleanL Γ.below → wp M Γ t (fun a _ s' => Q a s') (fun e _ s' => E e s') p s
def codeC (M : Model) (A : Around) (c : Code) (R : Result → Shared → Prop) (s : Shared) : Prop :=
  ∀ Γ p, Γ.code = c → Γ.Below A → CleanL Γ.below → wpCode M Γ R p s
section
variable {α β : Type} {M : Model} {A : Around} {E : Value → Shared → Prop} {s : Shared}
theorem wpC_of {t : Sem α} {Q : α → Shared → Prop} (h : wpAny M A t Q E s) : wpC M A t Q E s := fun Γ p hΓ _ _ => h Γ p hΓ
theorem codeC_of {c : Code} {R : Result → Shared → Prop} (h : codeAny M A c R s) : codeC M A c R s := fun Γ p hc hΓ _ => h Γ p hc hΓ
theorem wpC_pure {a : α} {Q : α → Shared → Prop} (h : Q a s) : wpC M A (pure a) Q E s := fun _ _ _ _ _ => h
theorem wpC_mono {t : Sem α} {Q Q' : α → Shared → Prop} {E' : Value → Shared → Prop} (h : wpC M A t Q E s) (hQ : ∀ a s, Q a s → Q' a s) (hE : ∀ e s, E e s → E' e s) : wpC M A t Q' E' s :=
  fun Γ p hΓ h1 h2 => Sem.wp_mono M Γ t (fun a _ s => hQ a s) (fun e _ s => hE e s) p s (h Γ p hΓ h1 h2)
theorem wpC_bind {m : Sem α} {f : α → Sem β} {Q : β → Shared → Prop} (h : wpC M A m (fun a s' => wpC M A (f a) Q E s') E s) : wpC M A (m >>= f) Q E s := fun Γ p hΓ h1 h2 => by
  rw [Sem.wp_bind']
  exact Sem.wp_mono M Γ m (fun a p' s' h' => h' Γ p' hΓ h1 h2) (fun _ _ _ h' => h') p s (h Γ p hΓ h1 h2)
theorem wpC_first {m : Sem α} {f : α → Sem β} {Q : β → Shared → Prop} (h : wpAny M A m (fun a s' => wpC M A (f a) Q E s') E s) : wpC M A (m >>= f) Q E s := wpC_bind (wpC_of h)
theorem wpC_eq {m : Sem α} {f : α → Sem β} {a : α} {Q : β → Shared → Prop} (e : m = pure a) (h : wpC M A (f a) Q E s) : wpC M A (m >>= f) Q E s := by subst e; exact h
theorem wpC_onRaise {m : Sem α} {k : Value → Sem Unit} {Q : α → Shared → Prop} (h : wpC M A m Q (fun e s' => wpC M A (k e) (fun _ s'' => E e s'') E s') s) : wpC M A (m.onRaise k) Q E s := fun Γ p hΓ h1 h2 => by
  rw [Sem.wp_onRaise]
  exact Sem.wp_mono M Γ m (fun _ _ _ h' => h') (fun e p' s' h' => h' Γ p' hΓ h1 h2) p s (h Γ p hΓ h1 h2)
theorem wpC_attempt {m : Sem α} {Q : Except Value α → Shared → Prop} (h : wpC M A m (fun a => Q (.ok a)) (fun e => Q (.error e)) s) : wpC M A m.attempt Q E s := fun Γ p hΓ h1 h2 => by
  rw [Sem.wp_attempt]; exact h Γ p hΓ h1 h2
theorem wpC_holding {vs : List Value} {m : Sem α} {Q : α → Shared → Prop} (h : wpC M A m Q E s) : wpC M A (holding vs m) Q E s := fun Γ p hΓ h1 h2 => by
  rw [Sem.wp_holding]; exact h Γ p hΓ h1 h2
theorem wpC_keep {vs : List Value} {m : Sem α} {Q : α → Shared → Prop} (h : wpC M A m Q E s) : wpC M A (m.keep vs) Q E s := fun Γ p hΓ h1 h2 => by
  rw [Sem.wp_keep]; exact h Γ p hΓ h1 h2
theorem wpC_standAt {pos : Pos} {f : Unit → Sem β} {Q : β → Shared → Prop} (h : wpC M A (f ()) Q E s) : wpC M A (standAt pos >>= f) Q E s := wpC_first (wpAny_standAt h)
theorem codeC_mono {c : Code} {R R' : Result → Shared → Prop} (h : codeC M A c R s) (hR : ∀ r s, R r s → R' r s) : codeC M A c R' s := fun Γ p hc hΓ h2 => wpCode_mono hR (h Γ p hc hΓ h2)
theorem cleanL_cons {c : Code} {p : Pos} {l : List (Code × Pos)} (h1 : holdsBa c = false) (h2 : CleanL l) : CleanL ((c, p) :: l) := fun x hx => by
  rcases List.mem_cons.mp hx with rfl | hx
  · exact h1
  · exact h2 x hx
theorem wpC_run {c : Code} {h : Option Value} {Q : Flow → Shared → Prop} (hc : codeC M (A.mark h) c (fun r s' => match r with | .ok f => Q f s' | .error e => E e s') s) (hnb : h ≠ some byPass := by intro x; cases x) :
    wpC M A (run c h) Q E s := fun Γ p hΓ h1 h2 => by
  rw [Sem.wp_run]
  exact hc _ p rfl (hΓ.enter c h p hnb) (cleanL_cons h1 h2)
theorem wpC_runValue {c : Code} {Q : Value → Shared → Prop} (hc : codeC M A c (fun r s' => match r with | .ok (.ret v) => Q v s' | .ok _ => False | .error e => E e s') s) : wpC M A (runValue c) Q E s := by
  unfold runValue
  have e : A.mark none = A := by
    obtain ⟨a, b, c, d, e⟩ := A
    rfl
  refine wpC_bind (wpC_run (e.symm ▸ codeC_mono hc (fun r s' h => ?_)))
  cases r with
  | error e => exact h
  | ok f =>
    cases f with
    | ret v => exact wpC_pure h
    | next => exact h.elim
    | brk => exact h.elim
    | cont => exact h.elim
theorem wpC_call {f : Value} {pos : List Value} {kw : List (Str × Value)} {Q : Value → Shared → Prop} (hc : codeC M A (.call f ⟨pos, kw⟩) (fun r s' => match r with | .ok (.ret v) => Q v s' | .ok _ => False | .error e => E e s') s) :
    wpC M A (call f pos kw) Q E s := wpC_runValue hc
theorem codeC_of_tree {c : Code} {R : Result → Shared → Prop} (hcl : holdsBa c = false)
    (h : wpC M (A.under c) (M.den c) (fun fin s' => match fin with | .done f => R (.ok f) s' | .again c' => c'.quiet = true ∧ codeC M A c' R s') (fun e s' => R (.error e) s') s) : codeC M A c R s := fun Γ p hc hΓ h2 => by
  rw [wpCode_iff_wp, hc]
  refine Sem.wp_mono M Γ _ (fun fin p' s' h' => ?_) (fun _ _ _ h' => h') p s (h Γ p (hc ▸ hΓ.in) (hc ▸ hcl) h2)
  cases fin with
  | done f => exact h'
  | again c' => exact ⟨h'.1, h'.2 (Γ.goto c') p' rfl (hΓ.goto c') h2⟩
theorem codeC_loop {c : Code} {R : Result → Shared → Prop} (hcl : holdsBa c = false) (hq : c.quiet = true) (I : Nat → Shared → Prop)
    (turn : ∀ n s, I n s → wpC M (A.under c) (M.den c)
      (fun fin s' => match fin with | .done f => R (.ok f) s' | .again c' => (c' = c ∧ ∃ m, m < n ∧ I m s') ∨ (c'.quiet = true ∧ codeC M A c' R s')) (fun e s' => R (.error e) s') s)
    (n : Nat) (h : I n s) : codeC M A c R s := by
  induction n using Nat.strongRecOn generalizing s with
  | ind n ih =>
    refine codeC_of_tree hcl (wpC_mono (turn n s h) (fun fin s' hf => ?_) fun _ _ h' => h')
    cases fin with
    | done f => exact hf
    | again c' =>
      rcases hf with ⟨rfl, m, hm, hI⟩ | hf
      · exact ⟨hq, ih m hm hI⟩
      · exact hf
end
section
variable {M : Model} {A : Around} {E : Value → Shared → Prop} {s : Shared} {env : Env}
theorem wpC_execs_nil {Q : Flow → Shared → Prop} (h : Q .next s) : wpC M A (execs [] env) Q E s := wpC_of (wpAny_execs_nil h)
theorem wpC_execs_cons {st : Stmt} {rest : List Stmt} {Q : Flow → Shared → Prop}
    (h : wpC M A (exec st env) (fun f s' => match f with | .next => wpC M A (execs rest env) Q E s' | f => Q f s') E s) : wpC M A (execs (st :: rest) env) Q E s := by
  rw [execs_cons]
  refine wpC_bind (wpC_mono h (fun f s' h' => ?_) fun _ _ x => x)
  cases f <;> first | exact h' | exact wpC_pure h'
theorem wpC_If {test : Expr} {body orelse : List Stmt} {pos : Pos} {Q : Flow → Shared → Prop}
    (h : wpC M A (isTrue test env (eval test env)) (fun b s₂ => if b = true then wpC M A (execs body env) Q E s₂ else wpC M A (execs orelse env) Q E s₂) E s) : wpC M A (exec (.If test body orelse pos) env) Q E s := by
  rw [exec_If]
  refine wpC_standAt (wpC_bind (wpC_mono h (fun b s₂ h₂ => ?_) fun _ _ x => x))
  cases b
  · simpa using h₂
  · simpa using h₂
theorem wpC_Assign_Name {x : Str} {pos' : Pos} {value : Expr} {pos : Pos} {Q : Flow → Shared → Prop}
    (h : wpC M A (eval value env) (fun v s₁ => wpC M A (storeName env x v) (fun _ => Q .next) E s₁) E s)
    (hs : swapsWith value (some (.Name x pos')) pos.line env = pure false := by rfl) : wpC M A (exec (.Assign [.Name x pos'] value pos) env) Q E s := fun Γ p hΓ h1 h2 => by
  simp only [exec_Assign_Name env x pos' value pos hs, Sem.wp_bind', Sem.wp_cmd_standAt, Sem.wp_bindName, Sem.wp_pure']
  exact Sem.wp_mono M Γ _ (fun v _ s₁ h₁ => h₁ Γ _ hΓ h1 h2) (fun _ _ _ h' => h') _ _ (h Γ _ hΓ h1 h2)
theorem wpC_Expr {e : Expr} {pos : Pos} {Q : Flow → Shared → Prop} (h : wpC M A (eval e env) (fun v s' => match v with | .ref _ => False | _ => Q .next s') E s)
    (hi : interactive env = false := by rfl) (hs : swapsWith e none pos.line env = pure false := by rfl) : wpC M A (exec (.Expr e pos) env) Q E s := by
  rw [exec_Expr env e pos hi hs]
  refine wpC_standAt (wpC_bind (wpC_mono h (fun v s' h' => ?_) fun _ _ x => x))
  have hv : ∀ a, v ≠ .ref a := fun a hva => by subst hva; exact h'
  rw [dropValue_plain hv]
  refine wpC_pure ?_
  cases v <;> first | exact h' | exact (hv _ rfl).elim
theorem wpC_Return {e : Expr} {pos : Pos} {Q : Flow → Shared → Prop} (h : wpC M A (eval e env) (fun v => Q (.ret v)) E s) : wpC M A (exec (.Return (some e) pos) env) Q E s := by
  rw [exec_Return_some]
  exact wpC_standAt (wpC_bind (wpC_mono h (fun v s' h' => wpC_pure h') fun _ _ x => x))
theorem wpC_isTrue_Compare1 {l r : Expr} {op : CmpOp} {pos : Pos} {whole : Sem Value} {Q : Bool → Shared → Prop}
    (h : wpC M A (eval l env) (fun a s₁ => wpAny M A (eval r env) (fun b s₂ => wpAny M A (compareOp op a b) (fun c s₃ => wpAny M A (truthy c) Q E s₃) E s₂) E s₁) E s)
    (hm : behindInMarks op r = false := by with_unfolding_all rfl) : wpC M A (isTrue (.Compare l [op] [r] pos) env whole) Q E s := fun Γ p hΓ k1 k2 => by
  simp only [isTrue_Compare1, markedBehindIn_of_false hm, Sem.wp_bind', Sem.wp_holding, Sem.wp_cmd_standAt, Sem.wp_operate]
  exact Sem.wp_mono M Γ _ (fun a p₁ s₁ h₁ => Sem.wp_mono M Γ _ (fun b _ s₂ h₂ => Sem.wp_mono M Γ _ (fun c p₃ s₃ h₃ => h₃ Γ p₃ hΓ)
    (fun _ _ _ h' => h') _ _ (h₂ Γ _ hΓ)) (fun _ _ _ h' => h') _ _ (h₁ Γ p₁ hΓ)) (fun _ _ _ h' => h') _ _ (h Γ p hΓ k1 k2)
theorem wpC_Compare1 {l r : Expr} {op : CmpOp} {pos : Pos} {Q : Value → Shared → Prop}
    (h : wpC M A (eval l env) (fun a s₁ => wpAny M A (eval r env) (fun b s₂ => wpAny M A (compareOp op a b) Q E s₂) E s₁) E s)
    (hm : behindInMarks op r = false := by with_unfolding_all rfl) : wpC M A (eval (.Compare l [op] [r] pos) env) Q E s := fun Γ p hΓ k1 k2 => by
  simp only [eval_Compare1, markedBehindIn_of_false hm, Sem.wp_bind', Sem.wp_holding, Sem.wp_cmd_standAt, Sem.wp_operate]
  exact Sem.wp_mono M Γ _ (fun a p₁ s₁ h₁ => Sem.wp_mono M Γ _ (fun b _ s₂ h₂ => h₂ Γ _ hΓ) (fun _ _ _ h' => h') _ _ (h₁ Γ p₁ hΓ)) (fun _ _ _ h' => h') _ _ (h Γ p hΓ k1 k2)
theorem wpC_isTrue_Or {x y : Expr} {pos : Pos} {whole : Sem Value} {Q : Bool → Shared → Prop}
    (h : wpC M A (isTrue x env (eval x env)) (fun b s₁ => if b = true then Q true s₁ else wpC M A (isTrue y env (eval y env)) Q E s₁) E s) : wpC M A (isTrue (.BoolOp .Or [x, y] pos) env whole) Q E s := by
  rw [arm_isTrue_BoolOp]
  unfold allTrue
  refine wpC_bind (wpC_mono h (fun b s₁ h₁ => ?_) fun _ _ x => x)
  cases b with
  | true => exact wpC_pure (by simpa using h₁)
  | false =>
    simp only [Bool.false_eq_true, if_false] at h₁
    show wpC M A (allTrue .Or [y] env) Q E s₁
    unfold allTrue
    refine wpC_bind (wpC_mono h₁ (fun b s₂ h₂ => ?_) fun _ _ x => x)
    cases b with
    | true => exact wpC_pure h₂
    | false => exact wpC_pure h₂
theorem wpC_runOwn {c : Code} {h : Option Value} {Q : Flow → Shared → Prop}
    (hc : codeC M (A.mark h) c (fun r s' => match r with | .ok f => Q f s' | .error e => cameBackBy M A env E e s') s) (hnb : h ≠ some byPass := by intro x; cases x) : wpC M A (runOwn c env h) Q E s := by
  unfold runOwn
  refine wpC_onRaise (wpC_run (codeC_mono hc (fun r s' h => ?_)) hnb)
  cases r with
  | ok f => exact h
  | error e => exact wpC_of h
theorem wpC_While {test : Expr} {body orelse : List Stmt} {pos : Pos} {Q : Flow → Shared → Prop}
    (h : codeC M A (.whileLoop test body orelse env) (fun r s' => match r with | .ok f => Q f s' | .error e => cameBackBy M A env E e s') s) : wpC M A (exec (.While test body orelse pos) env) Q E s := by
  rw [exec_While]
  have e : A.mark none = A := by
    obtain ⟨a, b, c, d, e⟩ := A
    rfl
  exact wpC_standAt (wpC_runOwn (e.symm ▸ h))
theorem wpC_For {target iter : Expr} {body orelse : List Stmt} {pos : Pos} {Q : Flow → Shared → Prop}
    (h : wpAny M A (eval iter env) (fun x s₁ => wpAny M A (pyIter x) (fun it s₂ =>
      codeC M A (.forLoop target it body orelse env) (fun r s' => match r with | .ok f => Q f s' | .error e => cameBackBy M A env E e s') s₂) E s₁) E s)
    (hs : ∀ x, foldedSetIterable iter env x = pure x := by intro _; rfl) : wpC M A (exec (.For target iter body orelse pos) env) Q E s := by
  rw [exec_For]
  have e : A.mark none = A := by
    obtain ⟨a, b, c, d, e⟩ := A
    rfl
  refine wpC_standAt (wpC_first (wpAny_mono h (fun x s₁ h₁ => wpC_eq (hs x) (wpC_standAt (wpC_first (wpAny_holding (wpAny_mono h₁ (fun it s₂ h₂ => ?_) fun _ _ h' => h'))))) fun _ _ h' => h'))
  exact wpC_runOwn (e.symm ▸ h₂)
theorem wpC_Try {body orelse : List Stmt} {h₀ : ExceptHandler} {hs : List ExceptHandler} {pos : Pos} {Q : Flow → Shared → Prop}
    (h : wpC M A (execs body env) (fun f s₁ => match f with | .next => wpC M A (execs orelse env) Q E s₁ | f => Q f s₁)
      (fun e s₁ => wpAny M A (noteFrame e env) (fun _ s₂ => wpAny M A (setFlight e none) (fun _ s₃ => wpAny M A (handleBy e env (h₀ :: hs)) Q E s₃) E s₂) E s₁) s) :
    wpC M A (exec (.Try body (h₀ :: hs) orelse [] pos) env) Q E s := by
  rw [arm_exec_Try]
  refine wpC_standAt ?_
  unfold tryStmt
  simp only [List.isEmpty_nil, if_true, List.isEmpty_cons, Bool.false_and, Bool.false_eq_true, if_false]
  refine wpC_bind (wpC_attempt (wpC_mono h (fun f s₁ h₁ => ?_) fun e s₁ h₁ => ?_))
  · cases f <;> first | exact h₁ | exact wpC_pure h₁
  · exact wpC_of (wpAny_bind (wpAny_mono h₁ (fun _ _ h₂ => wpAny_bind h₂) fun _ _ x => x))
theorem wpC_noted {α : Type} {m : Sem α} {Q : α → Shared → Prop} (h : wpC M A m Q (notedBy M A env E) s) : wpC M A (m.onRaise fun x => do noteFrame x env; theTreesLotGoes x) Q E s :=
  wpC_onRaise (wpC_mono h (fun _ _ q => q) fun _ _ hx => wpC_of (wpAny_bind (wpAny_mono hx (fun _ _ e => wpAny_theTreesLotGoes e) fun _ _ e => e)))
theorem wpC_callWith {pos : Pos} {f : Value} {first : List Value} {args : List (Bool × Sem Value)} {Q : Value → Shared → Prop} {P : Heap → Prop} (hplain : args.any (·.1) = false)
    (hk : ∀ h, P h → ∃ k, (k = Keeper.frame ∨ k = Keeper.machine ∨ k = Keeper.boundFrame) ∧ Looks M h (keeperOf f) k)
    (h : wpAny M A (evalArgs f true args []) (fun a s₁ => P s₁.heap ∧ wpC M A (call f (first ++ a.pos) a.kw) Q E s₁) E s) : wpC M A (callWith pos f first args []) Q E s := by
  unfold callWith
  refine wpC_first (wpAny_holding (wpAny_mono h (fun a s₁ h₁ => wpC_standAt ?_) fun _ _ x => x))
  obtain ⟨k, hk', L⟩ := hk _ h₁.1
  simp only [hplain, List.any_nil, Bool.or_false]
  refine wpC_first (L.here ?_)
  have tail : ∀ {t : Sem Value}, wpC M A t Q E s₁ → wpC M A (t >>= fun r => holding [r] point >>= fun _ => pure r) Q E s₁ :=
    fun ht => wpC_bind (wpC_mono ht (fun r s₂ hr => wpC_of (wpAny_bind (wpAny_holding (wpAny_point (wpAny_pure hr))))) fun _ _ x => x)
  have marked (mk : Value) : wpC M A (callMarked mk f (first ++ a.pos) a.kw) Q E s₁ := by unfold callMarked; exact wpC_keep h₁.2
  rcases hk' with rfl | rfl | rfl <;> dsimp only <;> first | exact tail h₁.2 | (split <;> first | exact tail h₁.2 | exact tail (marked _))
theorem wpC_Call_Name {id : Str} {p pos : Pos} {args : List Expr} {Q : Value → Shared → Prop}
    (h : wpAny M A (eval (.Name id p) env) (fun f s₁ => wpC M A (callWith pos f [] (backTo pos (starEach args env)) []) Q E s₁) E s) : wpC M A (eval (.Call (.Name id p) args [] pos) env) Q E s := by
  rw [arm_eval_Call_Name']
  exact wpC_first h
theorem wpC_Call_Meth {o : Expr} {name : Str} {apos pos : Pos} {args : List Expr} {pl : Sem Bool} {Q : Value → Shared → Prop}
    (h : wpAny M A (eval o env) (fun ov s₁ => wpAny M A (getMethod ov name pl) (fun fx s₂ => wpC M A (callWith pos fx.1 fx.2 (backTo pos (starEach args env)) []) Q E s₂) E s₁) E s)
    (he : eval (.Call (.Attribute o name apos) args [] pos) env = (do
      let ov ← eval o env
      standAt apos.atName
      let (f, first) ← holding [ov] (getMethod ov name pl)
      callWith pos f first (backTo pos (starEach args env)) []) := by rfl) : wpC M A (eval (.Call (.Attribute o name apos) args [] pos) env) Q E s := by
  rw [he]
  exact wpC_first (wpAny_mono h (fun ov s₁ h₁ => wpC_standAt (wpC_first (wpAny_holding (wpAny_mono h₁ (fun fx s₂ h₂ => h₂) fun _ _ x => x)))) fun _ _ x => x)
end
section
variable {prog : Program} {w : World} {A : Around} {E : Value → Shared → Prop} {R : Result → Shared → Prop} {s : Shared}
theorem codeC_func {body : List Stmt} {env : Env}
    (h : wpC (model prog w) (A.deeper env) (execs body env) (fun f s' => R (.ok (.ret (match f with | .ret v => v | _ => .none))) s')
      (fun e s' => wpAny (model prog w) (A.deeper env) (leaving env e) (fun _ s'' => R (.error e) s'') (fun e' s'' => R (.error e') s'') s') s) :
    codeC (model prog w) A (.func body env) R s := by
  refine codeC_of_tree rfl ?_
  show wpC _ (A.deeper env) (do point; match ← (execs body env).onRaise (leaving env) with | .ret v => ret v | _ => ret .none) _ _ s
  refine wpC_first (wpAny_point (wpC_bind (wpC_onRaise (wpC_mono h (fun f s' h' => ?_) fun _ _ h' => wpC_of h'))))
  cases f <;> exact wpC_pure h'
theorem codeC_call_function {a : Addr} {args : Args} {o : Obj} {fd : FuncData} {body : List Stmt} (hroom : A.depth < recursionLimit)
    (ho : s.heap.get? a = some o)
    (hd' : o.data = .func fd) (hco : fd.scope.isCoroutine = false) (hgen : fd.scope.isGenerator = false) (hbody : fd.body = .stmts body) (hcd : s.heap.CodeRec fd.code fd.qualname)
    (h : wpAny (model prog w) A.in1 (bindArgs fd args) (fun binds s₁ =>
      wpAny (model prog w) A.in1 (newFunctionEnv fd.scope fd.globals fd.closure binds (fd.qualname ++ ".<locals>.") (some a) fd.code none fd.builtins)
        (fun env s₂ => s₂.heap.NoLimit ∧ codeC (model prog w) A (.func body env) R s₂) (fun e s' => R (.error e) s') s₁) (fun e s' => R (.error e) s') s) :
    codeC (model prog w) A (.call (.ref a) args) R s := by
  refine codeC_of_tree rfl ?_
  show wpC _ A.in1 (callAny (.ref a) args) _ _ s
  simp only [callAny]
  refine wpC_first (wpAny_load ho ?_)
  obtain ⟨c, oc, vs, tq, hc, hoc, hdc, hq⟩ := hcd
  simp only [hd', callFunction, hco, hgen, hbody, hc]
  rw [hc] at h
  refine wpC_first (m := field (.ref c) 1) (wpAny_field hoc hdc hq (wpC_first (wpAny_pure ?_)))
  exact wpC_first (wpAny_mono h (fun binds s₁ h₁ => wpC_first (wpAny_mono h₁ (fun env s₂ h₂ => wpC_first (wpAny_enterFrame h₂.1 hroom
    (wpC_pure (And.intro rfl h₂.2)))) fun _ _ h' => h')) fun _ _ h' => h')
theorem codeC_call_def {a : Addr} {o : Obj} {fd : FuncData} {body : List Stmt} {args : Args} {binds : List (Str × Value)}
    (hroom : A.depth < recursionLimit) (ho : s.heap.get? a = some o) (hdata : o.data = .func fd) (hlim : s.heap.NoLimit) (hcd : s.heap.CodeRec fd.code fd.qualname)
    (hbody : fd.body = .stmts body) (hbind : BindsTo s fd args binds)
    (hcell : ∀ x ∈ fd.scope.names, x.2 ≠ .cell) (hloc : ∀ x ∈ binds, fd.scope.names.lookup x.1 = some .local)
    (h : ∀ h₀, h₀.Ns s.heap.objs.size (fun x => binds.reverse.lookup x) → (∀ b o, s.heap.get? b = some o → h₀.get? b = some o) →
      wpC (model prog w) (A.deeper (callEnv fd s.heap.objs.size a)) (execs body (callEnv fd s.heap.objs.size a)) (fun f s' => R (.ok (.ret (match f with | .ret v => v | _ => .none))) s')
        (fun e s' => wpAny (model prog w) (A.deeper (callEnv fd s.heap.objs.size a)) (leaving (callEnv fd s.heap.objs.size a) e) (fun _ s'' => R (.error e) s'') (fun e' s'' => R (.error e') s'') s')
        { s with heap := h₀, toks := s.toks + binds.length })
    (hco : fd.scope.isCoroutine = false := by rfl) (hgen : fd.scope.isGenerator = false := by rfl) (hk : fd.scope.kind = .function := by rfl) :
    codeC (model prog w) A (.call (.ref a) args) R s := by
  refine codeC_call_function hroom ho hdata hco hgen hbody hcd (hbind _ _ _ _ ?_)
  refine wpAny_newFunctionEnv hcell hloc (fun h₀ hns₀ hsb₀ => ⟨hlim.fresh _ hsb₀, codeC_func (h h₀ hns₀ fun b o e => ?_)⟩) hk
  exact hsb₀.extBut b o (Nat.ne_of_lt (Heap.lt_size e)) (Heap.get?_push_of_some _ e)
theorem codeC_builtin {id : String} {args : Args} {b : Builtin} (hcl : holdsBa (.builtin id args) = false) (hb : entryFor table id = some b)
    (h : wpC (model prog w) (A.under (.builtin id args)) (b args)
      (fun fin s' => match fin with | .done f => R (.ok f) s' | .again c' => c'.quiet = true ∧ codeC (model prog w) A c' R s') (fun e s' => R (.error e) s') s) :
    codeC (model prog w) A (.builtin id args) R s := by
  refine codeC_of_tree hcl ?_
  show wpC _ _ (match entryFor table id with | some b => b args | none => unsupported ((withoutEnding? id "#data").getD id)) _ _ s
  rw [hb]; exact h
theorem codeC_call_builtin {id : String} {args : Args} {b : Builtin} (hcl : holdsBa (.builtin id args) = false) (hq : plainId id = true) (hb : entryFor table id = some b)
    (h : wpAny (model prog w) A.in1 (checkBuiltinCall id args) (fun _ s₁ => wpC (model prog w) A.in1 (b args)
      (fun fin s' => match fin with | .done f => R (.ok f) s' | .again c' => c'.quiet = true ∧ codeC (model prog w) A c' R s') (fun e s' => R (.error e) s') s₁)
      (fun e s' => R (.error e) s') s) : codeC (model prog w) A (.call (.builtin id) args) R s := by
  refine codeC_of_tree rfl ?_
  show wpC _ A.in1 (do checkBuiltinCall id args; again (.builtin id args)) _ _ s
  refine wpC_first (wpAny_mono h (fun _ s₁ h₁ => wpC_pure (And.intro (plainId_quiet hq args) (codeC_builtin hcl hb ?_))) fun _ _ h' => h')
  rw [Around.under_plainId hq args]
  exact h₁
theorem wpC_if_false {α : Type} {M : Model} {c : Bool} {a b : Sem α} {Q : α → Shared → Prop} (hc : c = false) (h : wpC M A b Q E s) : wpC M A (if c = true then a else b) Q E s := by
  subst hc
  exact h
theorem wpC_if_true {α : Type} {M : Model} {c : Bool} {a b : Sem α} {Q : α → Shared → Prop} (hc : c = true) (h : wpC M A a Q E s) : wpC M A (if c = true then a else b) Q E s := by
  subst hc
  exact h
end
end Mine
end
section
set_option maxRecDepth 100000
namespace Mine
open PySem PySem.W PySem.Calls PyProof.Rows
open Sem (wp)
theorem ba_mro : mroOf (.type "bytearray") = pure [.type "bytearray", .type "object"] := by rw [mroOf_type]; kernel_rfl
theorem ba_lookup_new : typeLookup (.type "bytearray") "__new__" = pure (some (.builtin "bytearray.__new__")) := by rw [typeLookup_type, builtinLookup_eq_fast]; kernel_rfl
theorem ba_slot_init : Slot "bytearray" "__init__" "bytearray.__init__" :=
  .of (owner := "bytearray") (n := "__init__") (by rw [typeLookup_type, builtinLookup_eq_fast]; kernel_rfl) (by decide +kernel) (by decide +kernel) (by decide +kernel)
    (by first | exact .inl (by decide +kernel) | exact .inr (by decide +kernel)) (by rw [isSubtype_type]; kernel_rfl)
theorem ba_slot_append : Slot "bytearray" "append" "bytearray.append" :=
  .of (owner := "bytearray") (n := "append") (by rw [typeLookup_type, builtinLookup_eq_fast]; kernel_rfl) (by decide +kernel) (by decide +kernel) (by decide +kernel)
    (by first | exact .inl (by decide +kernel) | exact .inr (by decide +kernel)) (by rw [isSubtype_type]; kernel_rfl)
theorem ba_called : TypeCalled "bytearray" "bytearray.__new__" "bytearray.__init__" :=
  ⟨by decide +kernel, by decide +kernel, ⟨_, _, ba_mro⟩, madeBy_type ba_mro ba_lookup_new (by decide +kernel), by decide +kernel, by rw [isSubtype_type]; kernel_rfl, ba_slot_init⟩
theorem ba_typeCall0 : checkTypeCall "bytearray" ⟨[], []⟩ = pure () := by kernel_rfl
theorem ba_typeCall1 (a : Value) : checkTypeCall "bytearray" ⟨[a], []⟩ = pure () := by kernel_rfl
theorem ba_newCall0 : checkBuiltinCall "bytearray.__new__" ⟨[.type "bytearray"], []⟩ = pure () := by kernel_rfl
theorem ba_newCall1 (a : Value) : checkBuiltinCall "bytearray.__new__" ⟨[.type "bytearray", a], []⟩ = pure () := by kernel_rfl
theorem ba_entry_new : entryFor table "bytearray.__new__" = some Builtin.«list.__new__» := entryFor_alias (id' := "list.__new__") (by kernel_rfl) rfl (by decide +kernel) (by kernel_rfl)
theorem ba_entry_init : entryFor table "bytearray.__init__" = some Builtin.«bytearray.__init__» := by first | exact entryFor_of_fast (by kernel_rfl) | exact entryFor_of_tree (by kernel_rfl)
theorem ba_entry_append : entryFor table "bytearray.append" = some Builtin.«bytearray.append» := by first | exact entryFor_of_fast (by kernel_rfl) | exact entryFor_of_tree (by kernel_rfl)
theorem ba_args_init1 (a : Value) : argsOk "bytearray.__init__" ⟨[a], []⟩ := by unfold argsOk; kernel_rfl
theorem ba_args_init2 (a b : Value) : argsOk "bytearray.__init__" ⟨[a, b], []⟩ := by unfold argsOk; kernel_rfl
theorem ba_args_append (a b : Value) : argsOk "bytearray.append" ⟨[a, b], []⟩ := by unfold argsOk; kernel_rfl
theorem ba_type_append : typeOf (.builtin "bytearray.append") = pure (.type "method_descriptor") := by show builtinType _ = _; rw [builtinType_eq_fast]; kernel_rfl
theorem ba_sub : isSubtype (.type "bytearray") (.type "bytearray") = pure true := by rw [isSubtype_type]; kernel_rfl
set_option maxRecDepth 1000000 in
set_option maxHeartbeats 4000000 in
theorem ba_owner_new : ("bytearray.__new__".splitOn ".__new__").headD "" = "bytearray" := by simp +decide [String.splitOn, String.splitOnAux]
theorem ba_plain_new : plainId "bytearray.__new__" = true := by decide +kernel
theorem ba_plainAttrs : PlainAttrs "bytearray" :=
  ⟨⟨"bytearray.__getattribute__", by rw [typeLookup_type, builtinLookup_eq_fast]; kernel_rfl, by decide +kernel⟩, by rw [typeLookup_type, builtinLookup_eq_fast]; kernel_rfl⟩
end Mine
end
section
set_option maxRecDepth 100000
namespace Mine
open PySem PySem.W PySem.Calls PyProof.Rows
open Sem (wp)
section
variable {prog : Program} {w : World} {A : Around} {E : Value → Shared → Prop} {s : Shared} {R : Result → Shared → Prop}
abbrev baOf (b : Array UInt8) : Obj := { cls := .type "bytearray", data := .bytearray b }
theorem ba_code_new (pos : List Value) (hc : checkBuiltinCall "bytearray.__new__" ⟨.type "bytearray" :: pos, []⟩ = pure ()) {Q₁ : Value → Shared → Prop}
    (h : Q₁ (.ref s.heap.objs.size) { s with heap := s.heap.push (baOf #[]) }) :
    codeAny (model prog w) A (.call (.builtin "bytearray.__new__") ⟨.type "bytearray" :: pos, []⟩) (wants Q₁ E) s := by
  refine codeAny_of_tree ?_
  show wpAny _ A.in1 (do checkBuiltinCall "bytearray.__new__" ⟨.type "bytearray" :: pos, []⟩; again (.builtin "bytearray.__new__" ⟨.type "bytearray" :: pos, []⟩)) _ _ s
  refine wpAny_bind (wpAny_of_eq hc (wpAny_pure ⟨plainId_quiet ba_plain_new _, codeAny_builtin_stack ba_entry_new rfl fun p st => ?_⟩))
  rw [Around.under_plainId ba_plain_new _]
  have hsub := ba_sub
  have hown := ba_owner_new
  obtain ⟨hp, g, d, tk, os⟩ := s
  simp only [hown]
  wp_walk
  exact h
set_option maxHeartbeats 8000000 in
theorem wpC_callType {T newId initId : String} {Bi : Builtin} {args : List Value} {Q Q₁ : Value → Shared → Prop} (ft : TypeCalled T newId initId)
    (hct : checkTypeCall T ⟨args, []⟩ = pure ()) (entryI : entryFor table initId = some Bi)
    (hnew : codeAny (model prog w) A.in1 (.call (.builtin newId) ⟨.type T :: args, []⟩) (wants Q₁ E) s)
    (hcl : holdsBa (.builtin initId ⟨[], []⟩) = false)
    (hnext : ∀ obj s₁, Q₁ obj s₁ → s₁.TypeIs obj T ∧ argsOk initId ⟨obj :: args, []⟩ ∧
      wpC (model prog w) A.in1.in1 (Bi ⟨obj :: args, []⟩) (fun fin s' => fin = .done (.ret .none) ∧ Q obj s') E s₁) :
    wpC (model prog w) A (call (.type T) args) Q E s := by
  obtain ⟨c, tl, hmro⟩ := ft.mro
  have hmade := ft.made
  have hsub := ft.sub
  refine wpC_call (codeC_of_tree rfl ?_)
  show wpC _ _ (callAny (.type T) _) _ _ _
  refine wpC_pure ⟨Code.quiet_builtin _ (by decide +kernel), codeC_builtin rfl F.entry_type_call ?_⟩
  rw [Around.under_plain (weight_type_call_type T args []) rfl]
  have h1 := ft.notType
  have h2 := ft.canCreate
  show wpC _ _ (if (Value.type T == Value.type "type") = true then _ else _) _ _ _
  refine wpC_if_false h1 ?_
  show wpC _ _ (if _ = true then _ else _) _ _ _
  refine wpC_if_false h2 ?_
  refine wpC_eq hct ?_
  refine wpC_eq hmro ?_
  refine wpC_if_false rfl ?_
  show wpC _ _ (Bind.madeBy (.type T) >>= _) _ _ _
  refine wpC_eq hmade ?_
  show wpC _ _ (holding [Value.builtin newId] (call (.builtin newId) (.type T :: args) []) >>= _) _ _ _
  refine wpC_first (wpAny_holding (wpAny_call (codeAny_mono hnew fun r s₁ hr => ?_)))
  cases r with
  | error e => exact hr
  | ok fl =>
    cases fl with
    | ret obj =>
      obtain ⟨hT, hok, hsi⟩ := hnext _ _ hr
      refine wpC_first (wpAny_isInstance hT hsub ?_)
      refine wpC_if_false rfl ?_
      show wpC _ _ (holding [obj] (callSpecial? obj "__init__" args []) >>= _) _ _ _
      refine wpC_bind (wpC_holding ?_)
      simp only [callSpecial?]
      refine wpC_first (wpAny_specialOf hT ft.init.lookup ?_)
      simp only [ft.init.bind]
      refine wpC_holding (wpC_first (wpAny_pure (wpC_bind (wpC_call (codeC_call_builtin ?_ ft.init.plain entryI (ft.init.check _ _ _ _ _ _ _ _ hT hok (wpC_mono hsi (fun fin s' h' => ?_) fun _ _ h' => h')))))))
      · exact hcl
      · obtain ⟨rfl, hq⟩ := h'
        refine wpC_pure ?_
        refine wpC_if_false rfl ?_
        exact wpC_pure hq
    | _ => exact hr.elim
theorem ba_tooLong {b : Array UInt8} (h : b.size ≤ 16777216) : (baOf b).data.pastItsLine = none := by
  show (if b.size > sizeLine then some "bytearray:memory" else none) = none
  rw [if_neg (by rw [sizeLine_eq]; omega)]
theorem held_of (id : String) {args : Args} (h : holdsBa (.builtin id args) = false) : heldIds.contains id = false := h
theorem dec_of {id : String} (h : heldIds.contains id = false) : Builtin.Bytes.decodersThatHold.contains id = false := by
  unfold heldIds at h
  rw [List.contains_eq_mem, decide_eq_false_iff_not] at h
  rw [List.contains_eq_mem, decide_eq_false_iff_not]
  exact fun m => h (List.mem_append_right _ m)
theorem wpC_exported {a : Addr} {Q : Bool → Shared → Prop} (h : Q false s) : wpC (model prog w) A (Builtin.Bytes.exported (.ref a)) Q E s := by
  intro Γ p hΓ k1 k2
  have hcl : CleanL ((Γ.code, p) :: Γ.below) := cleanL_cons k1 k2
  unfold Builtin.Bytes.exported
  rw [Sem.wp_bind']
  show wp _ Γ (.stack .pure) _ _ p s
  rw [Sem.wp_stack, Sem.wp_pure, Sem.wp_pure']
  refine Eq.mpr (congrArg (fun b => Q b s) (List.any_eq_false.mpr fun x hx => ?_)) h
  have hx := hcl x hx
  obtain ⟨c, q⟩ := x
  dsimp only at hx
  rw [Bool.not_eq_true]
  split
  · rename_i e; cases e; exact absurd (held_of _ hx) (by decide)
  · rename_i e; cases e; exact absurd (held_of _ hx) (by decide)
  · rename_i e; cases e; exact absurd (held_of _ hx) (by decide)
  · rename_i e; cases e; exact absurd (held_of _ hx) (by decide)
  · rename_i e; cases e; exact absurd (held_of _ hx) (by decide)
  · rename_i e
    cases e
    rw [dec_of (held_of _ hx), Bool.and_false]
  · rfl
theorem wpC_notHeld {a : Addr} {b : Array UInt8} {Q : Bool → Shared → Prop} (ha : s.heap.get? a = some (baOf b)) (h : Q false s) :
    wpC (model prog w) A (Builtin.Bytes.exported (.ref a) <||> (do return (← Builtin.Bytes.exportsOf (.ref a)) > 0)) Q E s := by
  show wpC _ _ (Builtin.Bytes.exported (.ref a) >>= fun x => _) _ _ _
  refine wpC_bind (wpC_exported ?_)
  show wpC _ _ (Builtin.Bytes.exportsOf (.ref a) >>= _) _ _ _
  refine wpC_first ?_
  show wpAny _ _ (load a >>= _) _ _ _
  exact wpAny_bind (wpAny_load ha (wpAny_pure (wpC_pure h)))
theorem wpC_checkResize {a : Addr} {b : Array UInt8} {Q : Unit → Shared → Prop} (ha : s.heap.get? a = some (baOf b)) (h : Q () s) : wpC (model prog w) A (Builtin.Bytes.checkResize (.ref a)) Q E s := by
  unfold Builtin.Bytes.checkResize
  exact wpC_bind (wpC_notHeld ha (wpC_if_false rfl (wpC_pure h)))
theorem ba_buffer : typeLookup (.type "bytearray") "__buffer__" = pure (some (.builtin "bytearray.__buffer__")) := by rw [typeLookup_type, builtinLookup_eq_fast]; kernel_rfl
theorem ba_release : typeLookup (.type "bytearray") "__release_buffer__" = pure (some (.builtin "bytearray.__release_buffer__")) := by rw [typeLookup_type, builtinLookup_eq_fast]; kernel_rfl
theorem ba_no_bytes : typeLookup (.type "bytearray") "__bytes__" = pure none := by rw [typeLookup_type, builtinLookup_eq_fast]; kernel_rfl
theorem ba_no_index : typeLookup (.type "bytearray") "__index__" = pure none := by rw [typeLookup_type, builtinLookup_eq_fast]; kernel_rfl
theorem by_no_index : typeLookup (.type "bytes") "__index__" = pure none := by rw [typeLookup_type, builtinLookup_eq_fast]; kernel_rfl
theorem ba_typeIs {a : Addr} {b : Array UInt8} (ha : s.heap.get? a = some (baOf b)) : s.TypeIs (.ref a) "bytearray" := ⟨_, ha, rfl⟩
theorem ba_own (n : String) (hl : typeLookup (.type "bytearray") (n : Str) = pure (some (.builtin ("bytearray." ++ n)))) (he : ("bytearray." ++ n).endsWith ("." ++ n) = true) (hd : ("bytearray." ++ n).dropRight (n.length + 1) = "bytearray") {a : Addr} {b : Array UInt8}
    (ha : s.heap.get? a = some (baOf b)) {Q : Bool → Shared → Prop} (h : Q true s) : wpAny (model prog w) A (Builtin.Bytes.slotIsOwn (.ref a) n) Q E s := by
  unfold Builtin.Bytes.slotIsOwn
  refine wpAny_bind (wpAny_specialOf (ba_typeIs ha) hl ?_)
  dsimp only
  rw [he, hd]
  refine bm_if_false rfl ?_
  exact wpAny_isInstance (ba_typeIs ha) ba_sub h
theorem ba_ownRelease {a : Addr} {b : Array UInt8} (ha : s.heap.get? a = some (baOf b)) {Q : Bool → Shared → Prop} (h : Q false s) : wpAny (model prog w) A (Builtin.Bytes.ownRelease (.ref a)) Q E s := by
  unfold Builtin.Bytes.ownRelease
  exact wpAny_bind (ba_own "__release_buffer__" ba_release (by decide +kernel) (by decide +kernel) ha (wpAny_pure h))
theorem ba_write {a : Addr} {b c : Array UInt8} {f : Array UInt8 → Array UInt8} (ha : s.heap.get? a = some (baOf b)) (hf : f b = c) (hz : c.size ≤ 16777216) {Q : Unit → Shared → Prop}
    (h : ∀ h', Heap.SameBut a s.heap h' → h'.get? a = some (baOf c) → Q () { s with heap := h' }) : wpAny (model prog w) A (Builtin.Bytes.write (.ref a) f) Q E s := by
  show wpAny _ _ (updateBytearray a f) _ _ _
  unfold updateBytearray
  refine wpAny_bind (wpAny_load ha ?_)
  show wpAny _ _ (update a (Obj.mapBytearray f) >>= fun _ => lookBehind a) _ _ _
  refine wpAny_bind (wpAny_update ha ?_)
  have ho : (s.heap.update a (Obj.mapBytearray f)).get? a = some (baOf c) := by
    subst hf
    exact Heap.get?_update_self (Obj.mapBytearray f) ha rfl
  exact wpAny_lookBehind ho (ba_tooLong hz) (h _ (Heap.SameBut.update ..) ho)
theorem ba_byte {k : Int} {t : Tok} (h0 : 0 ≤ k) (h1 : k < 256) {Q : UInt8 → Shared → Prop} (h : Q k.toNat.toUInt8 s) : wpAny (model prog w) A (Builtin.Bytes.byteValue (.int k t)) Q E s := by
  unfold Builtin.Bytes.byteValue
  refine wpAny_bind (wpAny_of_eq (rfl : asIndex (.int k t) = pure k) ?_)
  refine bm_if_false (by simp only [Bool.or_eq_false_iff, decide_eq_false_iff_not]; omega) ?_
  exact wpAny_pure h
theorem wpC_ba_append {D : Addr} {b : Array UInt8} {k : Int} {t : Tok} {Q : Value → Shared → Prop} (ho : s.heap.get? D = some (baOf b)) (h0 : 0 ≤ k) (h1 : k < 256) (hz : b.size < 16777216)
    (h : ∀ h', Heap.SameBut D s.heap h' → h'.get? D = some (baOf (b.push k.toNat.toUInt8)) → Q .none { s with heap := h' }) : wpC (model prog w) A (call (.builtin "bytearray.append") [.ref D, .int k t]) Q E s := by
  refine wpC_call (codeC_call_builtin (show heldIds.contains "bytearray.append" = false by decide +kernel) ba_slot_append.plain ba_entry_append (ba_slot_append.check _ _ _ _ _ _ _ _ (ba_typeIs ho) (ba_args_append _ _) ?_))
  show wpC _ _ (do let c ← Builtin.Bytes.byteValue (.int k t); Builtin.Bytes.checkResize (.ref D); Builtin.Bytes.write (.ref D) (·.push c); ret .none) _ _ _
  refine wpC_first (ba_byte h0 h1 (wpC_bind (wpC_checkResize ho ?_)))
  refine wpC_first (ba_write ho rfl (by simp; omega) fun h' hs ho' => ?_)
  exact wpC_pure (h h' hs ho')
theorem wpC_ba_init0 {D : Addr} {Q : PySem.Fin → Shared → Prop} (ho : s.heap.get? D = some (baOf #[])) (h : ∀ h', Heap.SameBut D s.heap h' → h'.get? D = some (baOf #[]) → Q (.done (.ret .none)) { s with heap := h' }) :
    wpC (model prog w) A (Builtin.«bytearray.__init__» ⟨[.ref D], []⟩) Q E s := by
  unfold Builtin.«bytearray.__init__»
  refine wpC_first (ba_ownRelease ho ?_)
  refine wpC_if_false rfl ?_
  refine wpC_eq (a := [none, none, none]) (by kernel_rfl) ?_
  refine wpC_eq (a := ()) rfl ?_
  refine wpC_eq (a := ()) rfl ?_
  refine wpC_bind (wpC_notHeld ho ?_)
  refine wpC_if_false rfl ?_
  show wpC _ _ (Builtin.Bytes.write (.ref D) (fun _ => #[]) >>= _) _ _ _
  refine wpC_first (ba_write ho rfl (by simp) fun h' hs ho' => ?_)
  show wpC _ _ (pure () >>= fun _ => ret .none) _ _ _
  exact wpC_pure (h h' hs ho')
theorem wpC_ba_init1 {D : Addr} {c : Array UInt8} {t : Tok} (hz : c.size ≤ 16777216) {Q : PySem.Fin → Shared → Prop} (ho : s.heap.get? D = some (baOf #[])) (h : ∀ h', (∀ b, b ≠ D → h'.get? b = s.heap.get? b) → h'.get? D = some (baOf c) → Q (.done (.ret .none)) { s with heap := h' }) :
    wpC (model prog w) A (Builtin.«bytearray.__init__» ⟨[.ref D, .bytes c t], []⟩) Q E s := by
  unfold Builtin.«bytearray.__init__»
  refine wpC_first (ba_ownRelease ho ?_)
  refine wpC_if_false rfl ?_
  refine wpC_eq (a := [some (.bytes c t), none, none]) (by kernel_rfl) ?_
  refine wpC_eq (a := ()) rfl ?_
  refine wpC_eq (a := ()) rfl ?_
  refine wpC_bind (wpC_notHeld ho ?_)
  refine wpC_if_false rfl ?_
  show wpC _ _ (Builtin.Bytes.write (.ref D) (fun _ => #[]) >>= _) _ _ _
  refine wpC_first (ba_write ho rfl (by simp) fun h' hs ho' => ?_)
  show wpC _ _ (asStr? (.bytes c t) >>= _) _ _ _
  refine wpC_eq (a := none) rfl ?_
  refine wpC_if_false rfl ?_
  show wpC _ _ (pure () >>= _) _ _ _
  refine wpC_eq (a := ()) rfl ?_
  refine wpC_first (wpAny_specialOf (typeIs_bytes _ c t) by_no_index ?_)
  refine wpC_if_false rfl ?_
  show wpC _ _ (Builtin.Bytes.buffer? "bytearray.__init__" (.bytes c t) true >>= _) _ _ _
  refine wpC_eq (a := some c) (by
    unfold Builtin.Bytes.buffer?
    rw [KBy.special_eq KBy.look_buffer, KBy.own_buffer, KBy.own_release]
    kernel_rfl) ?_
  show wpC _ _ (rule _ >>= _) _ _ _
  refine wpC_first (wpAny_rule ?_)
  refine wpC_first (ba_write ho' rfl hz fun h2 hs2 ho2 => ?_)
  exact wpC_pure (h h2 (fun b hb => (hs2.2 b hb).trans (hs.2 b hb)) ho2)
theorem wpC_ba_call0 {Q : Value → Shared → Prop} (h : ∀ h', (∀ b o, s.heap.get? b = some o → h'.get? b = some o) → h'.get? s.heap.objs.size = some (baOf #[]) → Q (.ref s.heap.objs.size) { s with heap := h' }) :
    wpC (model prog w) A (call (.type "bytearray") []) Q E s := by
  refine wpC_callType (Q₁ := fun obj s₁ => obj = .ref s.heap.objs.size ∧ s₁ = { s with heap := s.heap.push (baOf #[]) }) ba_called ba_typeCall0 ba_entry_init (ba_code_new [] ba_newCall0 ⟨rfl, rfl⟩) (show heldIds.contains "bytearray.__init__" = false by decide +kernel) fun obj s₁ h₁ => ?_
  obtain ⟨rfl, rfl⟩ := h₁
  have hS : (s.heap.push (baOf #[])).get? s.heap.objs.size = some (baOf #[]) := Heap.get?_push_size _ rfl
  refine ⟨ba_typeIs hS, ba_args_init1 _, wpC_ba_init0 hS fun h' hs ho' => ⟨rfl, h h' (fun b o e => ?_) ho'⟩⟩
  exact (hs.2 b (Nat.ne_of_lt (Heap.lt_size e))).trans (Heap.get?_push_of_some _ e)
theorem wpC_ba_call1 {c : Array UInt8} {t : Tok} (hz : c.size ≤ 16777216) {Q : Value → Shared → Prop} (h : ∀ h', (∀ b o, s.heap.get? b = some o → h'.get? b = some o) → h'.get? s.heap.objs.size = some (baOf c) → Q (.ref s.heap.objs.size) { s with heap := h' }) :
    wpC (model prog w) A (call (.type "bytearray") [.bytes c t]) Q E s := by
  refine wpC_callType (Q₁ := fun obj s₁ => obj = .ref s.heap.objs.size ∧ s₁ = { s with heap := s.heap.push (baOf #[]) }) ba_called (ba_typeCall1 _) ba_entry_init (ba_code_new [_] (ba_newCall1 _) ⟨rfl, rfl⟩) (show heldIds.contains "bytearray.__init__" = false by decide +kernel) fun obj s₁ h₁ => ?_
  obtain ⟨rfl, rfl⟩ := h₁
  have hS : (s.heap.push (baOf #[])).get? s.heap.objs.size = some (baOf #[]) := Heap.get?_push_size _ rfl
  refine ⟨ba_typeIs hS, ba_args_init2 _ _, wpC_ba_init1 hz hS fun h' hs ho' => ⟨rfl, h h' (fun b o e => ?_) ho'⟩⟩
  exact (hs b (Nat.ne_of_lt (Heap.lt_size e))).trans (Heap.get?_push_of_some _ e)
end
end Mine
end
section
set_option maxRecDepth 100000
namespace Mine
open PySem PySem.W PySem.Calls PyProof.Rows
open Sem (wp)
section
variable {prog : Program} {w : World} {A : Around} {E : Value → Shared → Prop} {s : Shared} {R : Result → Shared → Prop}
theorem ba_bytes_new {D : Addr} {b : Array UInt8} {Q : Value → Shared → Prop} (ho : s.heap.get? D = some (baOf b)) (hz : b.size ≤ 16777216) (h : ∀ t k, Q (.bytes b t) { s with toks := k }) :
    codeAny (model prog w) A (.call (.builtin "bytes.__new__") ⟨[.type "bytes", .ref D], []⟩) (wants Q E) s := by
  refine codeAny_of_tree ?_
  show wpAny _ A.in1 (do checkBuiltinCall "bytes.__new__" ⟨[.type "bytes", .ref D], []⟩; again (.builtin "bytes.__new__" ⟨[.type "bytes", .ref D], []⟩)) _ _ s
  refine wpAny_bind (wpAny_of_eq (F.bm_newCall _) (wpAny_pure ⟨plainId_quiet F.bm_plain _, codeAny_builtin F.bm_entry ?_⟩))
  rw [Around.under_plainId F.bm_plain _]
  have hT := ba_typeIs ho
  unfold Builtin.«bytes.__new__»
  refine wpAny_bind (wpAny_of_eq (a := true) rfl ?_)
  refine bm_if_false rfl ?_
  refine wpAny_bind (wpAny_of_eq F.bm_sub ?_)
  refine bm_if_false rfl ?_
  refine wpAny_bind (wpAny_of_eq (F.bm_bind _) ?_)
  refine wpAny_bind (wpAny_of_eq (a := ()) rfl ?_)
  refine wpAny_bind (wpAny_of_eq (a := ()) rfl ?_)
  refine bm_if_false rfl ?_
  refine wpAny_bind (wpAny_specialOf hT ba_no_bytes ?_)
  refine wpAny_bind (wpAny_bind ?_)
  show wpAny _ _ (load D >>= _) _ _ _
  refine wpAny_bind (wpAny_load ho ?_)
  refine wpAny_pure (wpAny_pure ?_)
  refine bm_if_false rfl ?_
  refine wpAny_bind (wpAny_specialOf hT ba_no_index ?_)
  refine bm_if_true rfl ?_
  first
    | show wpAny _ _ (Builtin.Bytes.buffer? "bytes.__new__" (.ref D) true >>= _) _ _ _
    | (refine wpAny_bind ?_; show wpAny _ _ (Builtin.Bytes.buffer? "bytes.__new__" (.ref D) true >>= _) _ _ _)
  refine wpAny_bind ?_
  unfold Builtin.Bytes.buffer?
  refine wpAny_bind (wpAny_specialOf hT ba_buffer ?_)
  refine wpAny_bind (ba_own "__buffer__" ba_buffer (by decide +kernel) (by decide +kernel) ho ?_)
  refine bm_if_false rfl ?_
  refine wpAny_bind (wpAny_specialOf hT ba_buffer ?_)
  refine wpAny_bind (ba_ownRelease ho ?_)
  refine bm_if_false rfl ?_
  refine wpAny_bind ?_
  unfold Builtin.Bytes.payload Builtin.Bytes.payload?
  refine wpAny_bind (wpAny_bind (wpAny_load ho ?_))
  refine wpAny_pure (wpAny_pure (wpAny_pure ?_))
  show wpAny _ _ (rule _ >>= _) _ _ _
  refine wpAny_bind (wpAny_rule ?_)
  refine wpAny_bind (wpAny_mkBytes ?_ (by rw [sizeLine_eq]; exact hz))
  show wpAny _ _ (if (Value.type "bytes" == Value.type "bytes") = true then _ else _) _ _ _
  refine bm_if_true (by decide) ?_
  first
    | exact wpAny_pure (h _ _)
    | exact wpAny_bind (wpAny_pure (wpAny_pure (h _ _)))
theorem ba_bytes {D : Addr} {b : Array UInt8} {Q : Value → Shared → Prop} (ho : s.heap.get? D = some (baOf b)) (hz : b.size ≤ 16777216) (h : ∀ t k, Q (.bytes b t) { s with toks := k }) :
    wpAny (model prog w) A (call (.type "bytes") [.ref D]) Q E s := by
  refine callType_codes (Q₁ := fun obj s₁ => s₁.TypeIs obj "bytes" ∧ Q obj s₁) F.bm_called (F.bm_typeCall _) F.entry_object_init
    (ba_bytes_new ho hz fun t k => ⟨PySem.W.typeIs_bytes _ _ _, h t k⟩) fun obj s₁ h₁ => ?_
  exact ⟨h₁.1, F.args_object_init_2 obj _, object_init_meets F.bm_called.init.lookup F.bm_called.made (by decide) prog w A.in1 _ s₁ ⟨h₁.1, rfl, h₁.2⟩⟩
variable {h₀ : Heap} {L : Addr} {m : Str → Option Value} {news news' : List (Addr × Obj)}
theorem baK_bytes {D : Addr} {b : Array UInt8} {Q : Value → Shared → Prop} (N : News h₀ L s.heap news) (hm : (D, baOf b) ∈ news) (hz : b.size ≤ 16777216) (h : ∀ t k, Q (.bytes b t) { s with toks := k }) :
    wpAny (model prog w) A (call (.type "bytes") [.ref D]) Q E s := ba_bytes (N _ hm).1 hz h
theorem baK_method {D : Addr} {b : Array UInt8} {pl : Sem Bool} {Q : Value × List Value → Shared → Prop} (N : News h₀ L s.heap news) (hm : (D, baOf b) ∈ news)
    (h : Q (.builtin "bytearray.append", [.ref D]) s) : wpAny (model prog w) A (getMethod (.ref D) "append" pl) Q E s :=
  getMethod_builtin ⟨_, (N _ hm).1, rfl⟩ ba_plainAttrs ba_slot_append ba_type_append (fun a e => by cases e; exact ⟨_, (N _ hm).1, rfl⟩) h
theorem baK_call0 {Q : Value → Shared → Prop} (F : Fr h₀ L s.heap m) (N : News h₀ L s.heap news)
    (h : ∀ D h', Fr h₀ L h' m → News h₀ L h' ((D, baOf #[]) :: news) → (∀ p ∈ news, p.1 < D) → Q (.ref D) { s with heap := h' }) : wpC (model prog w) A (call (.type "bytearray") []) Q E s :=
  wpC_ba_call0 fun h' hk hD => h _ h' (F.keeps hk) (news_pushed F N hk hD rfl) fun p hp => Heap.lt_size (N p hp).1
theorem baK_call1 {c : Array UInt8} {t : Tok} {Q : Value → Shared → Prop} (hz : c.size ≤ 16777216) (F : Fr h₀ L s.heap m) (N : News h₀ L s.heap news)
    (h : ∀ D h', Fr h₀ L h' m → News h₀ L h' ((D, baOf c) :: news) → (∀ p ∈ news, p.1 < D) → Q (.ref D) { s with heap := h' }) : wpC (model prog w) A (call (.type "bytearray") [.bytes c t]) Q E s :=
  wpC_ba_call1 hz fun h' hk hD => h _ h' (F.keeps hk) (news_pushed F N hk hD rfl) fun p hp => Heap.lt_size (N p hp).1
theorem baK_append {D : Addr} {b : Array UInt8} {k : Int} {t : Tok} {Q : Value → Shared → Prop} (F : Fr h₀ L s.heap m) (N : News h₀ L s.heap news) (U : Upd D (baOf b) (baOf (b.push k.toNat.toUInt8)) news news')
    (h0 : 0 ≤ k) (h1 : k < 256) (hz : b.size < 16777216) (h : ∀ h', Fr h₀ L h' m → News h₀ L h' news' → Q .none { s with heap := h' }) : wpC (model prog w) A (call (.builtin "bytearray.append") [.ref D, .int k t]) Q E s := by
  obtain ⟨pre, post, rfl, rfl, a, b⟩ := U.split
  have z := N (D, _) (List.mem_append.mpr (.inr (.head _)))
  exact wpC_ba_append z.1 h0 h1 hz fun h' hs ho' => h h' (F.change hs z.2.1 z.2.2) (news_set N a b hs ho')
end
end Mine
end
section
set_option maxRecDepth 100000
namespace Mine
open PySem PySem.W PySem.Calls PyProof.Rows
open Sem (wp)
section
variable {prog : Program} {w : World} {A : Around} {E : Value → Shared → Prop} {R : Result → Shared → Prop} {h : Heap} {g : Array GenState} {d : Drawn} {t : Nat} {os : OsState} {K : Frag}
variable {nm q : Str} {C N fI : Addr} {bs bm bmB : List Value} {hdct : Bool} {sn : List Str} {sub : List Value} {ab : Bool} {col : Option Bool} {dd : Option Addr} {k0 k1 k2 k3 k5 : Option Value} {B newId initId : String}
abbrev excNew (C t : Addr) : Obj := { cls := .ref C, data := .fields #[.ref t, .none, .none, .none, .bool false, .none] }
abbrev excTup (vs : List Value) : Obj := { cls := .type "tuple", data := .seq vs.toArray }
theorem exc_check_new {M : Model} (F : ExcBaseFacts B newId initId bmB) (hB : bm.contains (.type B) = true) {rest : List Value} {Q : Unit → Shared → Prop} (hC : h.get? C = some (excClassObj nm q C N bs bm hdct sn sub ab col dd k0 k1 k2 k3 k5 newId))
    (hq : Q () ⟨h, g, d, t, os⟩) : wpAny M A (checkBuiltinCall newId ⟨.ref C :: rest, []⟩) Q E ⟨h, g, d, t, os⟩ := by
  have hcont : (Value.ref C :: bm).contains (.type B) = true := by rw [List.contains_cons, hB, Bool.or_true]
  have hstar := F.noStar
  simp only [checkBuiltinCall, F.newKind, F.newSplit, F.newRow]
  repeat (first | refine wpAny_loadPart_at hC ?_ | (refine wpAny_isSubtype_exc hC ?_; rw [hcont]) | refine wpAny_staticBase_exc hC ?_ | refine wpAny_madeBy_exc hC ?_ | simp only [bne_self_eq_false, Bool.false_eq_true, if_false] | wp_step)
  exact hq
theorem exc_new (F : ExcBaseFacts B newId initId bmB) (hB : bm.contains (.type B) = true) (hA : bm.contains (.type "AttributeError") = false) (hN : bm.contains (.type "NameError") = false) {rest : List Value}
    (hC : h.get? C = some (excClassObj nm q C N bs bm hdct sn sub ab col dd k0 k1 k2 k3 k5 newId))
    (hq : R (.ok (.ret (.ref (h.objs.size + 1)))) ⟨(h.push (excTup rest)).push (excNew C h.objs.size), g, d, t, os⟩) (hrest : rest.length ≤ sizeLine := by size_fits) :
    codeAny (model prog w) A (.builtin newId ⟨.ref C :: rest, []⟩) R ⟨h, g, d, t, os⟩ := by
  have hends := F.ends
  have hcB : (Value.ref C :: bm).contains (.type B) = true := by rw [List.contains_cons, hB, Bool.or_true]
  have hcA : (Value.ref C :: bm).contains (.type "AttributeError") = false := by rw [List.contains_cons, hA]; rfl
  have hcN : (Value.ref C :: bm).contains (.type "NameError") = false := by rw [List.contains_cons, hN]; rfl
  refine codeAny_builtinAt F.entry ?_
  unfold Builtin.«BaseException.__new__»
  refine PySem.wpAt_bind ?_
  show PySem.wpAt _ _ _ (stack >>= _) _ _ _
  refine PySem.wpAt_bind (PySem.wpAt_stack fun p below => PySem.wpAt_of_wpAny ?_)
  wp_walk
  refine PySem.wpAt_of_wpAny ?_
  rw [F.owner]
  repeat (first | with_reducible refine wpAny_madeHere_exc F.canon hC ?_ | with_reducible refine wpAny_loadPart_at hC ?_ | (with_reducible refine wpAny_isSubtype_exc hC ?_; first | rw [hcB] | rw [hcA] | rw [hcN]) | wp_step)
  show R _ _
  rw [Heap.size_push]
  exact hq
theorem exc_type_call (F : ExcBaseFacts B newId initId bmB) (hB : bm.contains (.type B) = true) (hA : bm.contains (.type "AttributeError") = false) (hN : bm.contains (.type "NameError") = false) {rest : List Value} {Q : PySem.Fin → Shared → Prop}
    (hC : h.get? C = some (excClassObj nm q C N bs bm hdct sn sub ab col dd k0 k1 k2 k3 k5 newId)) (X : K.In h) (hi : findIn K (.ref C) "__init__" = some (some (.ref fI))) (hf : typeIn K (.ref fI) = some (.type "function"))
    (hq : wpAny (model prog w) A (call (.ref fI) (.ref (h.objs.size + 1) :: rest)) (fun r s' => r = .none ∧ Q (.done (.ret (.ref (h.objs.size + 1)))) s') E ⟨(h.push (excTup rest)).push (excNew C h.objs.size), g, d, t, os⟩) (hrest : rest.length ≤ sizeLine := by size_fits) :
    wpAny (model prog w) A (Builtin.«type.__call__» ⟨.ref C :: rest, []⟩) Q E ⟨h, g, d, t, os⟩ := by
  repeat (first | with_reducible refine wpAny_loadPart_at hC ?_ | with_reducible refine wpAny_madeBy_exc hC ?_ | wp_step)
  refine codeAny_call_builtin_code (Code.quiet_builtin _ F.quiet) (exc_check_new F hB hC ?_)
  refine exc_new F hB hA hN hC ?_ hrest
  show wpAny _ _ _ _ _ _
  have keep : ∀ b o, h.get? b = some o → ((h.push (excTup rest)).push (excNew C h.objs.size)).get? b = some o := fun b o e => Heap.get?_push_of_some _ (Heap.get?_push_of_some _ e)
  have hC₁ := keep _ _ hC
  have X₁ : K.In ((h.push (excTup rest)).push (excNew C h.objs.size)) := X.keeps keep
  have hget : ((h.push (excTup rest)).push (excNew C h.objs.size)).get? (h.objs.size + 1) = some (excNew C h.objs.size) := by heap_get
  have hcC : (Value.ref C :: bm).contains (.ref C) = true := by simp
  unfold isInstance
  repeat (first | with_reducible refine wpAny_loadPart_at hget ?_ | (with_reducible refine wpAny_isSubtype_exc hC₁ ?_; rw [hcC]) | wp_step)
  show wpAny _ _ (typeLookup (.ref C) _) _ _ _
  refine Looks.here (s := ⟨_, _, _, _, _⟩) (looks_findIn X₁ hi) ?_
  refine wpAny_holding (wpAny_bind (Looks.here (s := ⟨_, _, _, _, _⟩) (bind_fn X₁ _ hf) ?_))
  refine wpAny_bind (wpAny_mono hq (fun r s' hr => ?_) fun _ _ x => x)
  obtain ⟨rfl, hQ⟩ := hr
  wp_walk
  exact hQ
theorem exc_call (F : ExcBaseFacts B newId initId bmB) (hB : bm.contains (.type B) = true) (hA : bm.contains (.type "AttributeError") = false) (hN : bm.contains (.type "NameError") = false) {rest : List Value} {Q : Value → Shared → Prop}
    (hC : h.get? C = some (excClassObj nm q C N bs bm hdct sn sub ab col dd k0 k1 k2 k3 k5 newId)) (X : K.In h) (hi : findIn K (.ref C) "__init__" = some (some (.ref fI))) (hf : typeIn K (.ref fI) = some (.type "function"))
    (hq : wpAny (model prog w) (A.under (.builtin "type.__call__" ⟨.ref C :: rest, []⟩)) (call (.ref fI) (.ref (h.objs.size + 1) :: rest)) (fun r s' => r = .none ∧ Q (.ref (h.objs.size + 1)) s') E ⟨(h.push (excTup rest)).push (excNew C h.objs.size), g, d, t, os⟩) (hrest : rest.length ≤ sizeLine := by size_fits) :
    wpAny (model prog w) A (call (.ref C) rest) Q E ⟨h, g, d, t, os⟩ := by
  have f1 := tc_lookup
  have f2 := tc_bind (.ref C)
  have hT : (⟨h, g, d, t, os⟩ : Shared).TypeIs (.ref C) "type" := ⟨_, hC, rfl⟩
  refine wpAny_call (codeAny_of_tree ?_)
  show wpAny _ _ (callAny (.ref C) _) _ _ _
  repeat (any_goals (first | assumption | with_reducible refine wpAny_loadPart_at hC ?_ | wp_step))
  refine ⟨rfl, ?_⟩
  refine codeAny_call_builtin_at (Code.quiet_builtin _ (by decide +kernel)) entry_typeCall (wpAny_check_type_call_sub hC (exc_type_call (hrest := hrest) F hB hA hN hC X hi hf ?_))
  exact hq
end
end Mine
end
section
set_option maxRecDepth 100000
namespace Mine
open PySem PySem.W PySem.Calls PyProof.Rows PySem.Builtin.ObjectAttr
open Sem (wp)
section
variable {prog : Program} {w : World} {A : Around} {E : Value → Shared → Prop} {R : Result → Shared → Prop} {s : Shared} {h₀ : Heap} {L : Addr} {m : Str → Option Value} {news : List (Addr × Obj)} {K : Frag}
variable {nm q : Str} {C N fI : Addr} {bs bm bmB : List Value} {hdct : Bool} {sn : List Str} {sub : List Value} {ab : Bool} {col : Option Bool} {dd : Option Addr} {k0 k1 k2 k3 k5 : Option Value} {B newId initId : String}
abbrev excDict (C t dx : Addr) : Obj := { cls := .ref C, dict := some dx, data := .fields #[.ref t, .none, .none, .none, .bool false, .none] }
theorem exc_call_K {rest : List Value} {Q : Value → Shared → Prop} (F : Fr h₀ L s.heap m) (X₀ : K.In h₀) (Nw : News h₀ L s.heap news) (FB : ExcBaseFacts B newId initId bmB)
    (hC : K.lookup C = some (excClassObj nm q C N bs bm hdct sn sub ab col dd k0 k1 k2 k3 k5 newId)) (hB : bm.contains (.type B) = true) (hA : bm.contains (.type "AttributeError") = false) (hN : bm.contains (.type "NameError") = false)
    (hi : findIn K (.ref C) "__init__" = some (some (.ref fI))) (hf : isFn K (.ref fI) = true) (hrest : rest.length ≤ sizeLine)
    (h : ∀ t e h', Fr h₀ L h' m → News h₀ L h' ((e, excNew C t) :: (t, excTup rest) :: news) → (∀ p ∈ news, p.1 < t) → t < e →
      codeAny (model prog w) (A.under (.builtin "type.__call__" ⟨.ref C :: rest, []⟩)) (.call (.ref fI) ⟨.ref e :: rest, []⟩) (InitBack e fun r s' => match r with | .ok (.ret v) => Q v s' | .ok _ => False | .error e => E e s') { s with heap := h' }) :
    wpAny (model prog w) A (call (.ref C) rest) Q E s := by
  have X := X₀.keeps F.keep
  obtain ⟨hh, g, d, tk, os⟩ := s
  refine exc_call FB hB hA hN (X _ _ hC) X hi (beq_iff_eq.mp hf) (wpAny_call (codeAny_mono (h hh.objs.size (hh.objs.size + 1) _ ((F.push _).push _) ?_ (fun p hp => Heap.lt_size (Nw p hp).1) (Nat.lt_succ_self _)) fun r s' hr => ?_)) hrest
  · have z := (News.push F Nw (excTup rest)).push (F.push _) (excNew C hh.objs.size)
    rwa [Heap.size_push] at z
  · rcases r with e | (v | _ | _ | _)
    · exact hr
    · exact hr.elim
    · exact hr.elim
    · exact hr.elim
    · exact hr
theorem exc_init_run {e t : Addr} {v : Value} {Q : PySem.Fin → Shared → Prop} (he : s.heap.get? e = some (excNew C t))
    (h : ∀ h', Heap.SameBut e (s.heap.push (excTup [v])) h' → h'.get? e = some (excNew C s.heap.objs.size) → Q (.done (.ret .none)) { s with heap := h' }) :
    wpAny (model prog w) A (Builtin.«BaseException.__init__» ⟨[.ref e, v], []⟩) Q E s := by
  show wpAny _ _ (newTuple [v] >>= fun x => Builtin.BaseException.bexcPut (.ref e) 0 x >>= fun _ => ret .none) _ _ _
  refine wpAny_bind ?_
  unfold newTuple
  refine wpAny_newObj_type ?_ (by size_fits)
  have he₁ : (s.heap.push (excTup [v])).get? e = some (excNew C t) := Heap.get?_push_of_some _ he
  unfold Builtin.BaseException.bexcPut
  refine wpAny_bind (wpAny_bind (wpAny_field he₁ rfl (x := .ref t) rfl (wpAny_bind (wpAny_setField he₁ rfl (by simp) ?_))))
  refine wpAny_letGo ?_
  refine wpAny_pure (h _ (Heap.SameBut.update ..) ?_)
  exact Heap.get?_update_self _ he₁ rfl
theorem exc_init_K {e t : Addr} {v : Value} {Q : Value → Shared → Prop} {news' : Addr → List (Addr × Obj)} (F : Fr h₀ L s.heap m) (X₀ : K.In h₀) (Nw : News h₀ L s.heap news)
    (FB : ExcBaseFacts B newId "Exception.__init__" bmB) (hC : K.lookup C = some (excClassObj nm q C N bs bm hdct sn sub ab col dd k0 k1 k2 k3 k5 newId)) (hB : bm.contains (.type B) = true)
    (U : ∀ t2, Upd e (excNew C t) (excNew C t2) news (news' t2))
    (h : ∀ t2 h', Fr h₀ L h' m → News h₀ L h' ((t2, excTup [v]) :: news' t2) → (∀ p ∈ news, p.1 < t2) → Q .none { s with heap := h' }) :
    wpAny (model prog w) A (call (.builtin "Exception.__init__") [.ref e, v]) Q E s := by
  have X := X₀.keeps F.keep
  have hmem : (e, excNew C t) ∈ news := by
    obtain ⟨pre, post, e1, _⟩ := (U 0).split
    rw [e1]
    simp
  have he := (Nw _ hmem).1
  have hC' := X _ _ hC
  refine wpAny_call (codeAny_call_builtin FB.init.plain FB.initEntry ?_)
  have hcB : (Value.ref C :: bm).contains (.type B) = true := by rw [List.contains_cons, hB, Bool.or_true]
  have hshort := FB.noStar
  obtain ⟨hh, g, d, tk, os⟩ := s
  have check : ∀ {A' : Around} {E' : Value → Shared → Prop} {Q' : Unit → Shared → Prop}, Q' () ⟨hh, g, d, tk, os⟩ → wpAny (model prog w) A' (checkBuiltinCall "Exception.__init__" ⟨[.ref e, v], []⟩) Q' E' ⟨hh, g, d, tk, os⟩ := by
    intro A' E' Q' hq
    simp only [checkBuiltinCall, FB.initKind, FB.initSplit, FB.initRow]
    repeat (first | (with_reducible refine wpAny_loadPart_at he ?_) | with_reducible refine wpAny_loadPart_at hC' ?_ | (with_reducible refine wpAny_isSubtype_exc hC' ?_; rw [hcB]) | wp_step)
    exact hq
  refine check (exc_init_run he fun h' hs ho => ?_)
  obtain ⟨pre, post, e1, e2, a, b⟩ := (U hh.objs.size).split
  have Np := News.push F Nw (excTup [v])
  rw [e1] at Np
  have lt : ∀ p ∈ news, p.1 < hh.objs.size := fun p hp => Heap.lt_size (Nw p hp).1
  have hez : e ≠ hh.objs.size := Nat.ne_of_lt (lt _ hmem)
  have z := Np (e, excNew C t) (by simp)
  refine h hh.objs.size h' ((F.push _).change hs z.2.1 z.2.2) ?_ lt
  rw [e2]
  have := news_set (pre := (hh.objs.size, excTup [v]) :: pre) (post := post) Np (fun p hp => by
    rcases List.mem_cons.mp hp with rfl | hp
    · exact hez.symm
    · exact a p hp) b hs ho
  exact this
theorem exc_osa {e t : Addr} {od : Option Addr} {name : Str} {tk : Tok} {v : Value} {cd : ClassData} (X : K.In s.heap) (he : s.heap.get? e = some { cls := .ref C, dict := od, data := .fields #[.ref t, .none, .none, .none, .bool false, .none] })
    (hc : clsIn K C = some cd) (hne : cd.mro.isEmpty = false) (hob : cd.mro.contains (.type "object") = true) (hp : ∀ self, refuseLoop self "__setattr__" cd.mro = pure ()) (ha : findIn K (.ref C) name = some none)
    (h : wpAny (model prog w) A.in1 (storeInOwnDict (.ref e) (.ref C) (.str name tk) name v false)
      (fun fin s' => match fin with | .done f => R (.ok f) s' | .again c' => c'.quiet = true ∧ codeAny (model prog w) A c' R s') (fun e s' => R (.error e) s') s) :
    codeAny (model prog w) A (.call (.builtin "object.__setattr__") ⟨[.ref e, .str name tk, v], []⟩) R s := by
  have SF := PySem.F.store_object
  have T : Looks (model prog w) s.heap (typeOf (.ref e)) (.ref C) := (Looks.ld he).andThen .now
  have sub : Looks (model prog w) s.heap (isInstance (.ref e) (.type "object")) true := T.andThen (looks_mroIn X (by unfold mroIn; rw [hc, Option.bind_some, if_neg (by rw [hne]; decide), hob]))
  refine codeAny_call_builtin SF.slot.plain SF.entry (@check_slot (model prog w) _ _ s "object.__setattr__" "object" "__setattr__" (.ref e) [.str name tk, v] [] _ SF.kind SF.split sub (SF.args (.ref e) (.str name tk) v) ?_)
  have hm : Looks (model prog w) s.heap (mroOf (.ref C)) cd.mro := (looks_clsIn X hc).andThen .now
  rw [osa_eq, refuse_eq]
  refine wpAny_bind (wpAny_bind (T.here (wpAny_bind (hm.here ?_))))
  rw [hp]
  exact wpAny_pure (wpAny_bind (T.here (wpAny_bind ((looks_findIn X ha).here (wpAny_bind (wpAny_pure h))))))
theorem exc_setattr {e t : Addr} {od : Option Addr} {name : Str} {v : Value} {Q : Unit → Shared → Prop} (X : K.In s.heap) (he : s.heap.get? e = some { cls := .ref C, dict := od, data := .fields #[.ref t, .none, .none, .none, .bool false, .none] })
    (hs : findIn K (.ref C) "__setattr__" = some (some (.builtin "object.__setattr__")))
    (h : codeAny (model prog w) A (.call (.builtin "object.__setattr__") ⟨[.ref e, .str name s.toks, v], []⟩) (fun r s' => match r with | .ok (.ret _) => Q () s' | .ok _ => False | .error e => E e s') { s with toks := s.toks + 1 }) :
    wpAny (model prog w) A (setAttr (.ref e) name v) Q E s := by
  have T : Looks (model prog w) s.heap (typeOf (.ref e)) (.ref C) := (Looks.ld he).andThen .now
  refine wpAny_bind (wpAny_mkText (wpAny_bind (wpAny_bind (wpAny_bind (T _ _ _ _ (fun _ _ e => e) (looks_findIn X hs _ _ _ _ (fun _ _ e => e) (wpAny_holding ?_)))))))
  rw [PySem.F.store_object.slot.bind]
  refine wpAny_bind (wpAny_pure (wpAny_bind (wpAny_call (codeAny_mono h fun r s' z => ?_))))
  rcases r with e | (v | _ | _ | _) <;> first | exact z | exact wpAny_pure (wpAny_pure z)
theorem exc_store {dx : Addr} {es es' : List DictEntry} {n n' : Nat} {name : Str} {tk : Tok} {v : Value} {Q : PySem.Fin → Shared → Prop} (hd : s.heap.get? dx = some (dictOf es n)) (hl : (getL name es).isSome = true)
    (e : (putL name (PyData.keyHash w.params name) (.str name s.toks) v es, putN name es n) = (es', n')) (hz : es'.length ≤ 1000)
    (h : ∀ h', Heap.SameBut dx s.heap h' → h'.get? dx = some (dictOf es' n') → Q (.done (.ret .none)) { s with heap := h', toks := s.toks + 1 }) :
    wpAny (model prog w) A (storeInDict dx (.str name tk) name v) Q E s := by
  obtain ⟨e1, e2⟩ := Prod.mk.inj e
  have hu : Obj.putName name (PyData.keyHash w.params name) (.str name s.toks) v (dictOf es n) = dictOf es' n' := by rw [putName_dict, e1, e2]
  have D' : (s.heap.update dx (Obj.putName name (PyData.keyHash w.params name) (.str name s.toks) v)).get? dx = some (dictOf es' n') := by
    rw [Heap.get?_update_self _ hd (by rw [hu]; rfl), hu]
  refine wpAny_bind (wpAny_pure (wpAny_bind ?_))
  unfold nsSet
  refine wpAny_bind (wpAny_bind (wpAny_askSetting (wpAny_pure (wpAny_bind (wpAny_mkText (wpAny_bind (wpAny_loadPart hd ?_)))))))
  have c : (!(es.toArray).any (·.key.isStr name) && (es.toArray).any (·.refKey)) = false := by
    rw [← Array.any_toList, ← Array.any_toList]
    show (!es.any _ && es.any _) = false
    unfold getL at hl
    split at hl
    · rename_i en he
      rw [List.any_eq_true.mpr ⟨en, List.mem_of_find?_eq_some he, List.find?_some he⟩]; rfl
    · split at hl
      · cases hl
      · rename_i z; rw [Bool.not_eq_true] at z; rw [z, Bool.and_false]
  dsimp only
  rw [aRefKeyMayBeTheName_at, c]
  refine wpAny_updatePart hd ?_
  refine wpAny_bind (wpAny_lookBehind D' (pastItsLine_dict (by rw [List.size_toArray, sizeLine_eq]; omega)) ?_)
  exact wpAny_pure (h _ (Heap.SameBut.update ..) D')
theorem exc_set1_K {e t : Addr} {name : Str} {v : Value} {Q : Unit → Shared → Prop} {cd : ClassData} {news' : Addr → List (Addr × Obj)} (F : Fr h₀ L s.heap m) (X₀ : K.In h₀) (Nw : News h₀ L s.heap news)
    (U : ∀ dx, Upd e (excNew C t) (excDict C t dx) news (news' dx))
    (hs : findIn K (.ref C) "__setattr__" = some (some (.builtin "object.__setattr__")))
    (hc : clsIn K C = some cd) (hne : cd.mro.isEmpty = false) (hob : cd.mro.contains (.type "object") = true) (hdd : cd.hasDict = true) (hp : ∀ self, refuseLoop self "__setattr__" cd.mro = pure ()) (ha : findIn K (.ref C) name = some none)
    (h : ∀ dx h', Fr h₀ L h' m → News h₀ L h' ((dx, dictOf [⟨PyData.keyHash w.params name, .str name (s.toks + 1), v⟩] 1) :: news' dx) → (∀ p ∈ news, p.1 < dx) → Q () { s with heap := h', toks := s.toks + 2 }) :
    wpAny (model prog w) A (setAttr (.ref e) name v) Q E s := by
  have X := X₀.keeps F.keep
  have hmem : (e, excNew C t) ∈ news := by
    obtain ⟨pre, post, e1, _⟩ := (U 0).split
    rw [e1]
    simp
  have he := (Nw _ hmem).1
  have lt : ∀ p ∈ news, p.1 < s.heap.objs.size := fun p hp => Heap.lt_size (Nw p hp).1
  have hez : e ≠ s.heap.objs.size := Nat.ne_of_lt (lt _ hmem)
  refine exc_setattr X he hs (exc_osa (s := { s with toks := s.toks + 1 }) X he hc hne hob hp ha ?_)
  unfold storeInOwnDict
  refine wpAny_bind (wpAny_pure (wpAny_bind ?_))
  show wpAny _ _ (instanceDict e true) _ _ _
  unfold instanceDict
  refine wpAny_bind (wpAny_loadPart he ?_)
  dsimp only
  refine wpAny_bind (Looks.here (s := { s with toks := s.toks + 1 }) (looks_clsIn X hc) ?_)
  rw [hdd]
  refine wpAny_bind (wpAny_alloc' ?_)
  have he₁ : (s.heap.push { cls := .type "dict", data := .dict #[] }).get? e = some (excNew C t) := Heap.get?_push_of_some _ he
  refine wpAny_bind (wpAny_update' he₁ ?_)
  refine wpAny_pure ?_
  show wpAny _ _ (storeInDict s.heap.objs.size _ name v) _ _ _
  have hD : ((s.heap.push { cls := .type "dict", data := .dict #[] }).update e fun o => { o with dict := some s.heap.objs.size }).get? s.heap.objs.size = some (dictOf [] 0) :=
    (Heap.get?_update_ne _ _ _ _ hez.symm).trans (Heap.get?_push_size _ rfl)
  have hE : ((s.heap.push { cls := .type "dict", data := .dict #[] }).update e fun o => { o with dict := some s.heap.objs.size }).get? e = some (excDict C t s.heap.objs.size) :=
    Heap.get?_update_self _ he₁ rfl
  obtain ⟨pre, post, e1, e2, a, b⟩ := (U s.heap.objs.size).split
  have Np := News.push F Nw (dictOf [] 0)
  rw [e1] at Np
  have z := Np (e, excNew C t) (by simp)
  have hs1 : Heap.SameBut e (s.heap.push { cls := .type "dict", data := .dict #[] }) ((s.heap.push { cls := .type "dict", data := .dict #[] }).update e fun o => { o with dict := some s.heap.objs.size }) := Heap.SameBut.update ..
  have F1 : Fr h₀ L ((s.heap.push { cls := .type "dict", data := .dict #[] }).update e fun o => { o with dict := some s.heap.objs.size }) m := (F.push _).change hs1 z.2.1 z.2.2
  have N1 : News h₀ L ((s.heap.push { cls := .type "dict", data := .dict #[] }).update e fun o => { o with dict := some s.heap.objs.size }) (((s.heap.objs.size, dictOf [] 0) :: pre) ++ (e, excDict C t s.heap.objs.size) :: post) :=
    news_set (pre := (s.heap.objs.size, dictOf [] 0) :: pre) (post := post) Np (fun p hp => by
      rcases List.mem_cons.mp hp with rfl | hp
      · exact hez.symm
      · exact a p hp) b hs1 hE
  refine exc_store (es := []) (n := 0) (es' := [⟨PyData.keyHash w.params name, .str name (s.toks + 1), v⟩]) (n' := 1) hD rfl rfl (by simp) fun h' hs2 ho2 => ?_
  have lt2 : ∀ p ∈ news' s.heap.objs.size, p.1 ≠ s.heap.objs.size := fun p hp => by
    rw [e2] at hp
    rcases List.mem_append.mp hp with hp | hp
    · exact Nat.ne_of_lt (lt p (by rw [e1]; exact List.mem_append_left _ hp))
    · rcases List.mem_cons.mp hp with rfl | hp
      · exact hez
      · exact Nat.ne_of_lt (lt p (by rw [e1]; exact List.mem_append_right _ (.tail _ hp)))
  have zz := N1 (s.heap.objs.size, dictOf [] 0) (by simp)
  refine h s.heap.objs.size h' (F1.change hs2 zz.2.1 zz.2.2) ?_ lt
  have N1' : News h₀ L ((s.heap.push { cls := .type "dict", data := .dict #[] }).update e fun o => { o with dict := some s.heap.objs.size }) ([] ++ (s.heap.objs.size, dictOf [] 0) :: news' s.heap.objs.size) := by
    rw [e2]
    exact N1
  exact news_set (pre := []) N1' (fun p hp => nomatch hp) lt2 hs2 ho2
theorem exc_set2_K {e t dx : Addr} {name : Str} {v : Value} {es es' : List DictEntry} {n n' : Nat} {Q : Unit → Shared → Prop} {cd : ClassData} {news' : List (Addr × Obj)} (F : Fr h₀ L s.heap m) (X₀ : K.In h₀) (Nw : News h₀ L s.heap news)
    (hm : (e, excDict C t dx) ∈ news)
    (hs : findIn K (.ref C) "__setattr__" = some (some (.builtin "object.__setattr__")))
    (hc : clsIn K C = some cd) (hne : cd.mro.isEmpty = false) (hob : cd.mro.contains (.type "object") = true) (hdd : cd.hasDict = true) (hp : ∀ self, refuseLoop self "__setattr__" cd.mro = pure ()) (ha : findIn K (.ref C) name = some none)
    (hl : (getL name es).isSome = true) (ep : (putL name (PyData.keyHash w.params name) (.str name (s.toks + 1)) v es, putN name es n) = (es', n')) (U : Upd dx (dictOf es n) (dictOf es' n') news news') (hz : es'.length ≤ 1000)
    (h : ∀ h', Fr h₀ L h' m → News h₀ L h' news' → Q () { s with heap := h', toks := s.toks + 2 }) :
    wpAny (model prog w) A (setAttr (.ref e) name v) Q E s := by
  have X := X₀.keeps F.keep
  have he := (Nw _ hm).1
  obtain ⟨pre, post, rfl, rfl, a, b⟩ := U.split
  have z := Nw (dx, dictOf es n) (by simp)
  refine exc_setattr X he hs (exc_osa (s := { s with toks := s.toks + 1 }) X he hc hne hob hp ha ?_)
  unfold storeInOwnDict
  refine wpAny_bind (wpAny_pure (wpAny_bind ?_))
  show wpAny _ _ (instanceDict e true) _ _ _
  unfold instanceDict
  refine wpAny_bind (wpAny_loadPart he ?_)
  dsimp only
  refine wpAny_bind (Looks.here (s := { s with toks := s.toks + 1 }) (looks_clsIn X hc) ?_)
  rw [hdd]
  refine wpAny_pure ?_
  show wpAny _ _ (storeInDict dx _ name v) _ _ _
  exact exc_store z.1 hl ep hz fun h' hs2 ho2 => h h' (F.change hs2 z.2.1 z.2.2) (news_set Nw a b hs2 ho2)
end
end Mine
end
section
set_option maxRecDepth 100000
namespace Mine
open PySem PySem.W PySem.Calls PyProof.Rows PySem.Builtin.ObjectAttr
open Sem (wp)
section
variable {prog : Program} {w : World} {A : Around} {E : Value → Shared → Prop} {R : Result → Shared → Prop} {s : Shared} {K : Frag} {C : Addr}
theorem be_kind : builtinKind "BaseException.__getattribute__" = some .slot := by decide +kernel
theorem be_split : splitId "BaseException.__getattribute__" = some ("BaseException", "__getattribute__") := by decide +kernel
theorem be_plain : plainId "BaseException.__getattribute__" = true := by decide +kernel
theorem be_slot : Slot "BaseException" "__getattribute__" "BaseException.__getattribute__" :=
  .of (owner := "BaseException") (n := "__getattribute__") (by rw [typeLookup_type, builtinLookup_eq_fast]; kernel_rfl) (by decide +kernel) (by decide +kernel) (by decide +kernel)
    (by first | exact .inl (by decide +kernel) | exact .inr (by decide +kernel)) (by rw [isSubtype_type]; kernel_rfl)
theorem exc_get {e : Addr} {oe od : Obj} {cd : ClassData} {name : Str} {v : Value} {expr : Bool} {Q : Value → Shared → Prop} (X : K.In s.heap) (I : InstAt s.heap e oe C (some od))
    (hga : findIn K (.ref C) "__getattribute__" = some (some (.builtin "BaseException.__getattribute__"))) (hgt : findIn K (.ref C) "__getattr__" = some none)
    (hc : clsIn K C = some cd) (hne : cd.mro.isEmpty = false) (hob : cd.mro.contains (.type "BaseException") = true)
    (hf : findObj K C (some od) name = some (.value v)) (hh : handedIn v = true) (h : Q v { s with toks := s.toks + 1 }) : wpAny (model prog w) A (getAttr (.ref e) name expr) Q E s := by
  have T : Looks (model prog w) s.heap (typeOf (.ref e)) (.ref C) := I.type
  have sub : Looks (model prog w) s.heap (isInstance (.ref e) (.type "BaseException")) true := T.andThen (looks_mroIn X (by unfold mroIn; rw [hc, Option.bind_some, if_neg (by rw [hne]; decide), hob]))
  have L1 := looks_find (M := model prog w) X I hf
  have L2 := looks_findIn (M := model prog w) X hga
  have L3 := looks_findIn (M := model prog w) X hgt
  obtain ⟨hp, g, d, t, os⟩ := s
  have hx2 : (Value.builtin "BaseException.__getattribute__" == Value.builtin "object.__getattribute__") = false := by decide +kernel
  unfold getAttr getAttrBy
  refine wpAny_bind (wpAny_mkText (wpAny_holding (wpAny_bind (T.at (wpAny_bind (L2.at ?_))))))
  show wpAny _ _ (if (onTheHeap (Value.ref C) && Value.builtin "BaseException.__getattribute__" == Value.builtin "object.__getattribute__") = true then _ else _) _ _ _
  refine bm_if_false (by rw [hx2, Bool.and_false]) ?_
  unfold getAttrByItsOwn hookBefore
  refine wpAny_bind (bm_if_true rfl (L3.at ?_))
  refine wpAny_bind (wpAny_attempt (wpAny_holding ?_))
  unfold callGetattribute
  refine bm_if_false (by cases expr <;> rfl) ?_
  unfold boundAndCalled
  rw [be_slot.bind]
  refine wpAny_bind (wpAny_pure ?_)
  show wpAny _ _ (call (.builtin "BaseException.__getattribute__") [.ref e, .str name t]) _ _ _
  refine wpAny_call (codeAny_call_builtin be_plain PySem.F.entry_bexc_ga (@check_slot (model prog w) _ _ _ "BaseException.__getattribute__" "BaseException" "__getattribute__" (.ref e) [.str name t] [] _ be_kind be_split sub (PySem.F.args_bexc_ga _ _) ?_))
  unfold Builtin.«object.__getattribute__»
  refine wpAny_bind (wpAny_of_eq (a := (Value.ref e, [Value.str name t])) rfl ?_)
  refine wpAny_bind (wpAny_of_eq (a := name) rfl ?_)
  refine wpAny_bind (T.at (wpAny_bind (L1.at ?_)))
  refine wpAny_pure ?_
  show wpAny _ _ (handedOut v) _ _ _
  rw [handedOut_of hh]
  exact wpAny_pure h
end
end Mine
end
section
set_option maxRecDepth 100000
namespace Mine
open PySem PySem.W PySem.Calls PyProof.Rows
open Sem (wp)
def Still (f : Obj → Obj) : Prop := ∀ o : Obj, o.isFreed = false → (f o).isFreed = false ∧ (f o).dict = o.dict ∧ (f o).cls = o.cls
def Keepy {α : Type} : Sem α → Prop
  | .pure _ => True
  | .raise _ => True
  | .unsupported _ => True
  | .finish _ => True
  | .rule _ k => Keepy (k ())
  | .at _ k => Keepy (k ())
  | .load _ _ k => ∀ o, Keepy (k o)
  | .update _ _ f k => Still f ∧ Keepy (k ())
  | .alloc _ k => ∀ a, Keepy (k a)
  | .loadIfAlive _ k => ∀ o, Keepy (k o)
  | .point _ k => Keepy (k ())
  | .register _ _ => True
  | .fresh k => ∀ t, Keepy (k t)
  | .ask k => ∀ x, Keepy (k x)
  | .choose _ _ k => ∀ n, Keepy (k n)
  | .os _ _ k => ∀ r, Keepy (k r)
  | .call .. => False
  | .handled _ k => ∀ v, Keepy (k v)
  | .newGen _ k => ∀ n, Keepy (k n)
  | .genState _ k => ∀ x, Keepy (k x)
  | .resume .. => False
  | .yield .. => True
  | .stack k => ∀ l, Keepy (k l)
  | .fork .. => True
  | .thread k => Keepy (k 0)
  | .await .. => True
theorem keepy_bind {α β : Type} {m : Sem α} {f : α → Sem β} (h : Keepy m) (hf : ∀ a, Keepy (f a)) : Keepy (m >>= f) := by
  show Keepy (m.bind f)
  induction m with
  | pure a => exact hf a
  | raise | unsupported | finish | register | yield | fork | await => trivial
  | rule _ k ih => exact ih () h
  | «at» _ k ih => exact ih () h
  | load _ _ k ih => exact fun o => ih o (h o)
  | update _ _ g k ih => exact ⟨h.1, ih () h.2⟩
  | alloc _ k ih => exact fun a => ih a (h a)
  | loadIfAlive _ k ih => exact fun o => ih o (h o)
  | point _ k ih => exact ih () h
  | fresh k ih => exact fun t => ih t (h t)
  | ask k ih => exact fun x => ih x (h x)
  | choose _ _ k ih => exact fun n => ih n (h n)
  | os _ _ k ih => exact fun r => ih r (h r)
  | call => exact h.elim
  | handled _ k ih => exact fun v => ih v (h v)
  | newGen _ k ih => exact fun n => ih n (h n)
  | genState _ k ih => exact fun x => ih x (h x)
  | resume => exact h.elim
  | stack k ih => exact fun l => ih l (h l)
  | thread k ih => exact ih 0 h
def DictKept (h h' : Heap) : Prop := ∀ b o, h.get? b = some o → ∃ o', h'.get? b = some o' ∧ o'.dict = o.dict ∧ o'.cls = o.cls
theorem DictKept.refl (h : Heap) : DictKept h h := fun _ o e => ⟨o, e, rfl, rfl⟩
theorem DictKept.trans {h h' h'' : Heap} (x : DictKept h h') (y : DictKept h' h'') : DictKept h h'' := fun b o e => by
  obtain ⟨o', e', d', c'⟩ := x b o e
  obtain ⟨o'', e'', d'', c''⟩ := y b o' e'
  exact ⟨o'', e'', d''.trans d', c''.trans c'⟩
theorem freed_of_get {h : Heap} {a : Addr} {o : Obj} (e : h.get? a = some o) : o.isFreed = false := (Heap.get?_some_iff.mp e).2
theorem DictKept.update {h : Heap} {a : Addr} {f : Obj → Obj} (hf : Still f) : DictKept h (h.update a f) := fun b o e => by
  by_cases hb : a = b
  · subst hb
    have z := hf o (freed_of_get e)
    exact ⟨f o, Heap.get?_update_self f e z.1, z.2.1, z.2.2⟩
  · exact ⟨o, (Heap.get?_update_other _ _ hb).trans e, rfl, rfl⟩
theorem wp_keepy {α : Type} {M : Model} {Γ : Ctx} {Q : α → Pos → Shared → Prop} {E : Value → Pos → Shared → Prop} {t : Sem α} (hk : Keepy t) (p : Pos) (s : Shared) (h : wp M Γ t Q E p s) :
    wp M Γ t (fun a p' s' => Q a p' s' ∧ DictKept s.heap s'.heap) (fun e p' s' => E e p' s' ∧ DictKept s.heap s'.heap) p s := by
  induction t generalizing p s with
  | pure a => exact ⟨h, .refl _⟩
  | raise e => exact ⟨h, .refl _⟩
  | unsupported | finish | register | yield | fork | await => exact h
  | rule _ k ih => exact ih () hk p s h
  | «at» q k ih => exact ih () hk q s h
  | load a q k ih =>
    obtain ⟨o, ho, h⟩ := h
    exact ⟨o, ho, ih o (hk o) p s h⟩
  | update a q f k ih =>
    have z := DictKept.update (h := s.heap) (a := a) hk.1
    refine ⟨h.1, Sem.wp_mono M Γ _ (fun _ _ _ x => ⟨x.1, z.trans x.2⟩) (fun _ _ _ x => ⟨x.1, z.trans x.2⟩) p _ (ih () hk.2 p _ h.2)⟩
  | alloc o k ih =>
    have z : DictKept s.heap (s.heap.push o) := fun b o' e => ⟨o', Heap.get?_push_of_some _ e, rfl, rfl⟩
    exact Sem.wp_mono M Γ _ (fun _ _ _ x => ⟨x.1, z.trans x.2⟩) (fun _ _ _ x => ⟨x.1, z.trans x.2⟩) p _ (ih s.heap.objs.size (hk _) p _ h)
  | loadIfAlive a k ih => exact ih _ (hk _) p s h
  | point _ k ih => exact ih () hk p s h
  | fresh k ih => exact ih s.toks (hk _) p _ h
  | ask k ih => exact ih _ (hk _) p s h
  | choose _ _ k ih => exact ⟨h.1, ih _ (hk _) p _ h.2⟩
  | os _ _ k ih => exact ih _ (hk _) p _ h
  | call => exact hk.elim
  | handled _ k ih => exact ih _ (hk _) p s h
  | newGen _ k ih => exact ih _ (hk _) p _ h
  | genState _ k ih =>
    obtain ⟨st, hst, h⟩ := h
    exact ⟨st, hst, ih _ (hk _) p s h⟩
  | resume => exact hk.elim
  | stack k ih => exact ih _ (hk _) p s h
  | thread k ih => exact ih 0 hk p s h
theorem wpAny_keepy {α : Type} {M : Model} {A : Around} {Q : α → Shared → Prop} {E : Value → Shared → Prop} {t : Sem α} {s : Shared} (hk : Keepy t) (h : wpAny M A t Q E s) :
    wpAny M A t (fun a s' => Q a s' ∧ DictKept s.heap s'.heap) (fun e s' => E e s' ∧ DictKept s.heap s'.heap) s := fun Γ p hΓ => wp_keepy hk p s (h Γ p hΓ)
theorem still_fields (f : Array Value → Array Value) : Still (Obj.mapFields f) := fun o hf => by
  obtain ⟨c, d, dt, sl⟩ := o
  cases dt <;> first | exact ⟨rfl, rfl, rfl⟩ | exact absurd hf (by decide) | exact ⟨hf, rfl, rfl⟩
theorem keepy_pure {α : Type} (a : α) : Keepy (pure a : Sem α) := trivial
theorem keepy_stop {α : Type} (x : String) : Keepy (unsupported x : Sem α) := trivial
theorem keepy_load (a : Addr) : Keepy (load a) := fun _ => trivial
theorem keepy_stack : Keepy stack := fun _ => trivial
theorem keepy_update {a : Addr} {f : Obj → Obj} (h : Still f) : Keepy (update a f) := ⟨h, trivial⟩
theorem keepy_fieldsOf (v : Value) : Keepy (fieldsOf v) := by
  unfold fieldsOf
  split
  · exact keepy_bind (keepy_load _) fun o => by split <;> trivial
  · trivial
theorem keepy_field (v : Value) (i : Nat) : Keepy (field v i) := by
  unfold field
  exact keepy_bind (keepy_fieldsOf v) fun vs => by split <;> trivial
theorem keepy_updateField (a : Addr) (i : Nat) (v : Value) : Keepy (updateField a i v) := by
  unfold updateField
  refine keepy_bind (keepy_load _) fun o => ?_
  split
  · split
    · exact keepy_update (still_fields _)
    · trivial
  · trivial
theorem keepy_setField (v : Value) (i : Nat) (x : Value) : Keepy (setField v i x) := by
  unfold setField
  split
  · exact keepy_updateField _ _ _
  · trivial
theorem keepy_newFields (ty : String) (vs : List Value) : Keepy (newFields ty vs) := by
  unfold newFields newObj newObjAsIs
  dsimp only
  split
  · trivial
  · exact fun _ => trivial
theorem keepy_frameEnvs : Keepy frameEnvs := keepy_bind keepy_stack fun _ => trivial
theorem keepy_behind (env : Env) (outer : List Env) : Keepy (behindIsImport env outer) := by
  unfold behindIsImport
  split
  · trivial
  · split
    · trivial
    · exact keepy_bind (keepy_field _ _) fun _ => trivial
theorem keepy_keptBack (env : Env) (b : Bool) (l : List Env) : Keepy (keptBack env b l) := by
  unfold keptBack
  split
  · split
    · trivial
    · exact keepy_bind (keepy_bind keepy_stack fun _ => trivial) fun _ => trivial
  · trivial
theorem keepy_ready : ∀ l : List Env, Keepy (readyFrames l)
  | [] => trivial
  | env :: outer => by
    unfold readyFrames
    split
    · refine keepy_bind (keepy_load _) fun o => ?_
      split
      · trivial
      · refine keepy_bind (keepy_behind _ _) fun b => keepy_bind (keepy_keptBack _ _ _) fun v => keepy_bind (keepy_update fun o hf => ?_) fun _ => keepy_ready outer
        refine ⟨?_, rfl, rfl⟩
        obtain ⟨c, d, dt, sl⟩ := o
        cases dt <;> first | rfl | exact hf
    · trivial
theorem keepy_frameObject (l : List Env) : Keepy (frameObject l) := by
  unfold frameObject
  split
  · trivial
  · exact keepy_bind (keepy_ready _) fun _ => trivial
theorem keepy_frameOf (env : Env) : Keepy (PySem.frameOf env) := by
  unfold PySem.frameOf
  refine keepy_bind keepy_frameEnvs fun l => keepy_bind (keepy_frameObject _) fun r => ?_
  split <;> trivial
theorem keepy_entryPlace (f : Addr) (b : Bool) : Keepy (entryPlaceOf f b) := by
  unfold entryPlaceOf
  refine keepy_bind keepy_stack fun l => ?_
  split <;> trivial
theorem keepy_newEntry (a b c d e : Value) (l : List Value) : Keepy (EntryCells.newEntry a b c d e l) := keepy_newFields _ _
theorem keepy_setFlight (e : Value) (f : Option Addr) : Keepy (setFlight e f) := by
  unfold setFlight
  refine keepy_bind (keepy_field _ _) fun tb => ?_
  split
  · exact keepy_setField _ _ _
  · trivial
theorem keepy_noteFrame (e : Value) (env : Env) : Keepy (noteFrame e env) := by
  unfold noteFrame
  split
  · refine keepy_bind (keepy_field _ _) fun hd => ?_
    have last : ∀ f, Keepy (do setField e 1 (← EntryCells.newEntry hd (← PySem.frameOf env) .none (rawInt f) .none (← entryPlaceOf f (hd != .none)))) := fun f =>
      keepy_bind (keepy_frameOf _) fun _ => keepy_bind (keepy_entryPlace _ _) fun _ => keepy_bind (keepy_newEntry _ _ _ _ _ _) fun _ => keepy_setField _ _ _
    split
    · refine keepy_bind (keepy_field _ _) fun x => ?_
      split
      · trivial
      · exact keepy_bind (keepy_setField _ _ _) fun _ => last _
    · exact last _
  · trivial
theorem keepy_leaving (env : Env) (e : Value) : Keepy (leaving env e) := by
  unfold leaving
  exact keepy_bind (keepy_noteFrame _ _) fun _ => keepy_setFlight _ _
end Mine
end
section
set_option maxRecDepth 100000
namespace Mine
open PySem PySem.W PySem.Calls PyProof.Rows
open Sem (wp)
def FlyD (B : Heap) (l : List Env) (e C dx : Addr) (fl : Value) (h : Heap) : Prop :=
  (B.StaysIn h ∧ B.get? e = none ∧ h.FunFrames B l ∧ ∃ a0, h.TracedAtW B e (.ref C) a0 fl) ∧ ∃ oe, h.get? e = some oe ∧ oe.dict = some dx
section
variable {M : Model} {A : Around} {E : Value → Shared → Prop} {s : Shared} {B : Heap} {env : Env} {outer l : List Env} {L e C t dx : Addr} {fl : Value} {Q : Unit → Shared → Prop}
theorem dictAt_kept {h h' : Heap} (x : ∃ oe, h.get? e = some oe ∧ oe.dict = some dx) (k : DictKept h h') : ∃ oe, h'.get? e = some oe ∧ oe.dict = some dx := by
  obtain ⟨oe, he, hd⟩ := x
  obtain ⟨o', ho', hd', _⟩ := k e oe he
  exact ⟨o', ho', hd'.trans hd⟩
theorem wpAny_with_dict {α : Type} {tr : Sem α} {P : Heap → Prop} {Q : α → Shared → Prop} {a : α} (hk : Keepy tr) (hd : ∃ oe, s.heap.get? e = some oe ∧ oe.dict = some dx)
    (h : wpAny M A tr (fun x s' => x = a ∧ ∃ h', s' = { s with heap := h' } ∧ P h') (fun _ _ => False) s)
    (hQ : ∀ h', P h' → (∃ oe, h'.get? e = some oe ∧ oe.dict = some dx) → Q a { s with heap := h' }) : wpAny M A tr Q E s := by
  refine wpAny_mono (wpAny_keepy hk h) (fun x s' z => ?_) fun _ _ z => z.1.elim
  obtain ⟨⟨rfl, h', rfl, hp⟩, kd⟩ := z
  exact hQ h' hp (dictAt_kept hd kd)
theorem noteFrame_first (hfr : A.frames = some (env :: outer)) (hf : env.frame = some L) (hl : s.heap.FunFrames B (env :: outer)) (he : s.heap.get? e = some (excDict C t dx)) (hkb : B.StaysIn s.heap) (hen : B.get? e = none)
    (hQ : ∀ h', FlyD B (env :: outer) e C dx (rawInt L) h' → s.heap.UpToSlots h' → Q () { s with heap := h' }) : wpAny M A (noteFrame (.ref e) env) Q E s := by
  refine wpAny_with_dict (a := ()) (e := e) (dx := dx) (P := fun h' => Heap.NotedW B (env :: outer) e (.ref C) (.ref t) (rawInt L) s.heap h') (keepy_noteFrame _ _) ⟨_, he, rfl⟩ ?_ fun h' hN hd => ?_
  · unfold noteFrame
    simp only [hf]
    refine wpAny_bind (wpAny_field (x := Value.none) he rfl rfl ?_)
    rw [if_neg (by decide)]
    exact wpAny_entryW hfr hl hf he hkb hen rfl (by simp) rfl fun h' hN => ⟨by trivial, h', rfl, hN⟩
  · obtain ⟨k1, k2, k3, k4⟩ := hN
    exact hQ h' ⟨⟨k1, hen, k2, _, k3⟩, hd⟩ k4
theorem noteFrame_fly (hfr : A.frames = some (env :: outer)) (hf : env.frame = some L) (hfl : fl = .none ∨ fl = rawInt L) (R : FlyD B (env :: outer) e C dx fl s.heap)
    (hQ : ∀ h', FlyD B (env :: outer) e C dx (rawInt L) h' → s.heap.UpToSlots h' → Q () { s with heap := h' }) : wpAny M A (noteFrame (.ref e) env) Q E s := by
  obtain ⟨⟨f1, f2, f3, a0, f4⟩, hd⟩ := R
  rcases hfl with rfl | rfl
  · refine wpAny_with_dict (a := ()) (e := e) (dx := dx) (P := fun h' => Heap.NotedW B (env :: outer) e (.ref C) a0 (rawInt L) s.heap h') (keepy_noteFrame _ _) hd ?_ fun h' hN hd => ?_
    · exact wpAny_noteFrame_onW hfr f3 hf f4 f1 f2 fun h' hN => ⟨by trivial, h', rfl, hN⟩
    · obtain ⟨k1, k2, k3, k4⟩ := hN
      exact hQ h' ⟨⟨k1, f2, k2, _, k3⟩, hd⟩ k4
  · exact wpAny_noteFrame_againW hf f4 (hQ s.heap ⟨⟨f1, f2, f3, a0, f4⟩, hd⟩ (Heap.UpToSlots.refl _))
theorem setFlight_fly {fl' : Option Addr} (R : FlyD B l e C dx fl s.heap)
    (hQ : ∀ h', FlyD B l e C dx (fl'.elim .none fun f => rawInt f) h' → s.heap.UpToSlots h' → Q () { s with heap := h' }) : wpAny M A (setFlight (.ref e) fl') Q E s := by
  obtain ⟨⟨hkb, hen, hl, a0, oe, vs, T, oT, ts, he, hcls, hd, h1, hnT, hTe, hT, hdT, h3⟩, hdict⟩ := R
  have hsz3 : 3 < ts.size := (Array.getElem?_eq_some_iff.mp h3).1
  have other : ∀ b, b ≠ T → (s.heap.update T (Obj.mapFields (·.setIfInBounds 3 (fl'.elim Value.none fun f => rawInt f)))).get? b = s.heap.get? b :=
    fun b hb => Heap.get?_update_other _ _ (Ne.symm hb)
  have noRecord : ∀ b o, s.heap.get? b = some o → (∀ vs, o.data ≠ .fields vs) → b ≠ T := fun b o hb hnf q => by
    rw [q, hT] at hb; injection hb with hb; subst hb; exact hnf ts hdT
  unfold setFlight
  refine wpAny_bind (wpAny_field he hd h1 ?_)
  rw [if_pos (show (Value.ref T != Value.none) = true from by simp)]
  have hdict' : ∃ oe, (s.heap.update T (Obj.mapFields (·.setIfInBounds 3 (fl'.elim Value.none fun f => rawInt f)))).get? e = some oe ∧ oe.dict = some dx := by
    obtain ⟨o, ho, hd⟩ := hdict
    exact ⟨o, (other e (Ne.symm hTe)).trans ho, hd⟩
  refine wpAny_setField hT hdT hsz3 (hQ _ ⟨⟨fun b o hbo => (other b fun q => by rw [q, hnT] at hbo; cases hbo).trans (hkb b o hbo), hen,
    hl.of_keeps fun b o hb hnf => ⟨o, (other b (noRecord b o hb hnf)).trans hb, rfl⟩, a0, ?_⟩, hdict'⟩ fun b o hb hnf => ⟨o.slots, (other b (noRecord b o hb hnf)).trans hb⟩)
  exact ⟨oe, vs, T, _, _, (other e (Ne.symm hTe)).trans he, hcls, hd, h1, hnT, hTe, Heap.get?_update_self _ hT (Obj.isFreed_of_fields (Obj.data_mapFields hdT _)), Obj.data_mapFields hdT _, by simp [hsz3]⟩
end
def RaisedD (base G : Heap) (l : List Env) (e C dx : Addr) (od : Obj) (fl : Value) (h : Heap) : Prop :=
  ∃ B, base.StaysIn B ∧ (∀ b o, G.get? b = some o → b ∉ l.filterMap (·.frame) → B.get? b = some o) ∧ (B.get? dx = some od ∧ G.get? dx = none ∧ base.get? dx = none) ∧ FlyD B l e C dx fl h
def ExcH (base g : Heap) (l : List Env) (L C : Addr) (P : Obj → Prop) (v : Value) (h : Heap) : Prop :=
  ∃ e dx od G m fl, v = .ref e ∧ P od ∧ (fl = .none ∨ fl = rawInt L) ∧ Fr g L G m ∧ G.UpToSlots h ∧ RaisedD base G l e C dx od fl h
def ExcN (g : Heap) (L C : Addr) (P : Obj → Prop) (v : Value) (h : Heap) : Prop :=
  ∃ e t dx od m news, v = .ref e ∧ P od ∧ Fr g L h m ∧ News g L h news ∧ (e, excDict C t dx) ∈ news ∧ (dx, od) ∈ news ∧ e ≠ dx
def ExcS (base g : Heap) (l : List Env) (L C : Addr) (P : Obj → Prop) (v : Value) (h : Heap) : Prop := ExcN g L C P v h ∨ ExcH base g l L C P v h
section
variable {M : Model} {A A₀ : Around} {E : Value → Shared → Prop} {s : Shared} {base g : Heap} {env : Env} {outer : List Env} {L C : Addr} {P : Obj → Prop} {Q : Unit → Shared → Prop} {v : Value}
theorem exc_note (K : Below A₀ base outer g) (hA : A.frames = some (env :: outer)) (hf : env.frame = some L) (hk : env.scope.kind = .function) (R : ExcS base g (env :: outer) L C P v s.heap)
    (hQ : ∀ h', ExcH base g (env :: outer) L C P v h' → Q () { s with heap := h' }) : wpAny M A (noteFrame v env) Q E s := by
  rcases R with R | R
  · obtain ⟨e, t, dx, od, m, news, rfl, hP, F, N, he, hdx, hne⟩ := R
    have K' := pushX (env := env) K F hf hk
    have Ne_ := N _ he
    have Nd := N _ hdx
    have hme : ∀ b ∈ (env :: outer).filterMap (·.frame), b = L ∨ ∃ o, g.get? b = some o := fun b hm => by
      obtain ⟨env', h1, h2⟩ := List.mem_filterMap.mp hm
      rcases List.mem_cons.mp h1 with rfl | h1
      · exact .inl (Option.some.inj (h2.symm.trans hf))
      · obtain ⟨o, ho, _⟩ := (K.frames.mem (List.mem_filterMap.mpr ⟨env', h1, h2⟩)).2
        exact .inr ⟨o, ho⟩
    have hdn : dx ∉ (env :: outer).filterMap (·.frame) := fun hm => by
      rcases hme _ hm with z | ⟨o, ho⟩
      · exact Nd.2.1 z
      · rw [Nd.2.2] at ho; cases ho
    refine noteFrame_first (B := hideAll s.heap (e :: (env :: outer).filterMap (·.frame))) (C := C) (dx := dx) hA hf ?_ Ne_.1 (fun b o q => of_hideAll _ q) (hideAll_none _ (.head _)) fun h' hF hU => ?_
    · exact funFrames_hide K'.frames fun env' he' b hb => .tail _ (List.mem_filterMap.mpr ⟨env', he', hb⟩)
    · have hsub : ∀ b o, (hideAll s.heap [e, dx]).get? b = some o → s.heap.get? b = some o := fun b o q => of_hideAll _ q
      refine hQ h' ⟨e, dx, od, hideAll s.heap [e, dx], m, rawInt L, rfl, hP, .inr rfl, ⟨?_, fun b o q => hideAll_get _ (F.keep b o q) ?_, F.above⟩, (Heap.UpToSlots.trans (fun b o q nf => ⟨o.slots, hsub b o q⟩) hU),
        hideAll s.heap (e :: (env :: outer).filterMap (·.frame)), fun b o q => hideAll_get _ (F.keep b o (K.stays b o q)) ?_, fun b o q nm => hideAll_get _ (hsub b o q) ?_, ⟨hideAll_get _ Nd.1 ?_, hideAll_none _ (.tail _ (.head _)), fresh_of_stays K.stays Nd.2.2⟩, hF⟩
      · obtain ⟨oL, es, ep, hL, r⟩ := F.ns
        refine ⟨oL, es, ep, hideAll_get _ hL fun q => ?_, r⟩
        rcases List.mem_cons.mp q with q | q
        · exact Ne_.2.1 q.symm
        · rcases List.mem_cons.mp q with q | q
          · exact Nd.2.1 q.symm
          · exact nomatch q
      · intro z
        rcases List.mem_cons.mp z with rfl | z
        · rw [Ne_.2.2] at q; cases q
        · rcases List.mem_cons.mp z with rfl | z
          · rw [Nd.2.2] at q; cases q
          · exact nomatch z
      · intro z
        have q' := K.stays b o q
        rcases List.mem_cons.mp z with rfl | z
        · rw [Ne_.2.2] at q'; cases q'
        · rw [(K'.frames.mem z).1] at q; cases q
      · intro z
        rcases List.mem_cons.mp z with rfl | z
        · rw [hideAll_none _ (.head _)] at q; cases q
        · exact nm z
      · intro z
        rcases List.mem_cons.mp z with z | z
        · exact hne z.symm
        · exact hdn z
  · obtain ⟨e, dx, od, G, m, fl, rfl, hP, hfl, F, hU, B, b1, b2, b3, hF⟩ := R
    exact noteFrame_fly hA hf hfl hF fun h' hF' hU' => hQ h' ⟨e, dx, od, G, m, _, rfl, hP, .inr rfl, F, hU.trans hU', B, b1, b2, b3, hF'⟩
theorem exc_flight (R : ExcH base g (env :: outer) L C P v s.heap) {fl' : Option Addr} (hfl : fl' = none ∨ fl' = some L)
    (hQ : ∀ h', ExcH base g (env :: outer) L C P v h' → Q () { s with heap := h' }) : wpAny M A (setFlight v fl') Q E s := by
  obtain ⟨e, dx, od, G, m, fl, rfl, hP, _, F, hU, B, b1, b2, b3, hF⟩ := R
  refine setFlight_fly hF fun h' hF' hU' => hQ h' ⟨e, dx, od, G, m, _, rfl, hP, ?_, F, hU.trans hU', B, b1, b2, b3, hF'⟩
  rcases hfl with rfl | rfl
  · exact .inl rfl
  · exact .inr rfl
theorem exc_came (hf : env.frame = some L) (R : ExcH base g (env :: outer) L C P v s.heap) (hQ : ∀ h', ExcH base g (env :: outer) L C P v h' → E v { s with heap := h' }) : cameBackBy M A env E v s := by
  have R' := R
  obtain ⟨e, dx, od, G, m, fl, rfl, hP, _, F, hU, B, b1, b2, b3, ⟨_, _, _, a0, oe, vs, T, oT, ts, he, hc, hd, h1, _⟩, _⟩ := R'
  unfold cameBackBy
  refine wpAny_bind (wpAny_field he hd h1 ?_)
  rw [if_neg (show ¬ ((Value.ref T == Value.none) = true) from by simp)]
  rw [hf]
  first
    | exact exc_flight R (.inr rfl) hQ
    | exact wpAny_bind (wpAny_pure (exc_flight R (.inr rfl) hQ))
theorem exc_loop (K : Below A₀ base outer g) {A₁ : Around} (hA : A₁.frames = some (env :: outer)) (hf : env.frame = some L) (hk : env.scope.kind = .function) (R : ExcS base g (env :: outer) L C P v s.heap)
    (hQ : ∀ h', ExcH base g (env :: outer) L C P v h' → E v { s with heap := h' }) : notedBy M A₁ env (cameBackBy M A env E) v s :=
  exc_note K hA hf hk R fun _ R' => exc_came hf R' hQ
def Left (base g : Heap) (outer : List Env) (C : Addr) (P : Obj → Prop) (v : Value) (h : Heap) : Prop :=
  ∃ e dx od, v = .ref e ∧ P od ∧ RaisedD base g outer e C dx od .none h ∧ g.UpToSlots h
theorem exc_leave (K : Below A₀ base outer g) (hA : A.frames = some (env :: outer)) (hf : env.frame = some L) (hk : env.scope.kind = .function) (R : ExcS base g (env :: outer) L C P v s.heap)
    (hQ : ∀ h', Left base g outer C P v h' → Q () { s with heap := h' }) : wpAny M A (leaving env v) Q E s := by
  unfold leaving
  refine wpAny_bind (exc_note K hA hf hk R fun h' R' => ?_)
  obtain ⟨e, dx, od, G, m, fl, rfl, hP, _, F, hU, B, b1, b2, b3, hF⟩ := R'
  refine setFlight_fly hF fun h'' hF' hU' => hQ h'' ⟨e, dx, od, rfl, hP, ⟨B, b1, fun b o q nm => b2 b o (F.keep b o q) fun hm => ?_, ⟨b3.1, kts_none F.keep b3.2.1, b3.2.2⟩, ?_⟩, (Heap.UpToSlots.of_keeps F.keep).trans (hU.trans hU')⟩
  · obtain ⟨env', h1, h2⟩ := List.mem_filterMap.mp hm
    rcases List.mem_cons.mp h1 with rfl | h1
    · obtain rfl := Option.some.inj (h2.symm.trans hf)
      rw [kts_self F] at q; cases q
    · exact nm (List.mem_filterMap.mpr ⟨env', h1, h2⟩)
  · obtain ⟨⟨k1, k2, ⟨_, _, k3⟩, k4⟩, k5⟩ := hF'
    exact ⟨⟨k1, k2, k3, k4⟩, k5⟩
theorem left_excS {m : Str → Option Value} {G : Heap} (F : Fr g L G m) {h : Heap} (R : Left base G (env :: outer) C P v h) : ExcS base g (env :: outer) L C P v h := by
  obtain ⟨e, dx, od, rfl, hP, hR, hU⟩ := R
  exact .inr ⟨e, dx, od, G, m, _, rfl, hP, .inl rfl, F, hU, hR⟩
end
end Mine
end
section
set_option maxRecDepth 100000
namespace Mine
open PySem PySem.W PySem.Calls PyProof.Rows
open Sem (wp)
section
variable {prog : Program} {w : World} {A₀ : Around} {E : Value → Shared → Prop} {s' : Shared} {base g : Heap} {outer : List Env} {L a C : Addr} {name : Str} {scope : Scope} {cd : Value}
  {n : Str} {b₀ : Stmt} {suite : List Stmt} {pos np : Pos} {rest : List ExceptHandler} {Q : Flow → Shared → Prop} {KF : Frag} {P : Obj → Prop} {v : Value} {x : Str} {c : Value}
  {p : Program} {loose : List Str} {mean : ExcName → Option Value} {mg mb : Str → Option Value}
theorem kts_groundD {B G h₅ : Heap} {m : Str → Option Value} {e dx : Addr} {od : Obj} {fl : Value} (K : Below A₀ base outer g) (F : Fr g L G m) (hsm : G.UpToSlots h₅)
    (hBG : ∀ b o, G.get? b = some o → b ∉ (envOf name scope L a cd :: outer).filterMap (·.frame) → B.get? b = some o) (hdx : G.get? dx = none) (hB : B.get? dx = some od)
    (R : FlyD B (envOf name scope L a cd :: outer) e C dx fl h₅) :
    ∃ g' oe, KtsTurn (outer.filterMap (·.frame)) g g' ∧ Fr g' L h₅ m ∧ News g' L h₅ [(e, oe), (dx, od)] ∧ oe.cls = .ref C ∧ oe.dict = some dx ∧ notCls oe = true ∧ Below A₀ base outer g' := by
  obtain ⟨⟨k1, k2, k3, a0, oe, vs, T, oT, ts, he, hc, hd, h1, hnT, hTe, hT, hdT, h3⟩, oe', he', hdx'⟩ := R
  rw [he] at he'
  cases he'
  obtain ⟨g', T', F', K'⟩ := kts_ground K F hBG k1 hsm
  have hne : g.get? e = none := by
    cases q : g.get? e with
    | none => rfl
    | some o =>
      by_cases hm : e ∈ (envOf name scope L a cd :: outer).filterMap (·.frame)
      · obtain ⟨_, o', ho', hd'⟩ := k3.mem hm
        rw [he] at ho'
        cases ho'
        exact (hd' _ hd).elim
      · have := hBG e o (F.keep _ _ q) hm
        rw [k2] at this
        cases this
  have hLB : B.get? L = none := by
    obtain ⟨_, ⟨L', _, hf, hn', _⟩, _⟩ := k3
    obtain rfl : L = L' := Option.some.inj hf
    exact hn'
  refine ⟨g', oe, T', F', fun q hq => ?_, hc.1, hdx', by unfold notCls; rw [hd], K'⟩
  rcases List.mem_cons.mp hq with rfl | hq
  · refine ⟨he, fun q => ?_, T'.none_ _ hne⟩
    obtain ⟨oL, es, ep, hL, hLd, _⟩ := F'.ns
    dsimp only at q
    rw [q, hL] at he
    cases he
    rw [hLd] at hd
    cases hd
  · rcases List.mem_cons.mp hq with rfl | hq
    · refine ⟨k1 _ _ hB, fun q => ?_, T'.none_ _ (kts_none F.keep hdx)⟩
      dsimp only at q
      rw [q, hLB] at hB
      cases hB
    · exact nomatch hq
theorem caughtD {G : Heap} {m₀ : Str → Option Value} (K : Below A₀ base outer g) (F₀ : Fr g L G m₀) (R : Left base G (envOf name scope L a cd :: outer) C P v s'.heap) (XB : KF.In base) (TB : Top p loose mean mg mb base)
    (hc : KtsName KF x c) (hex : exmOne KF (.ref C) c = some true)
    (k : ∀ (h' g' : Heap) (m : Str → Option Value) (e dx : Addr) (oe od : Obj) (tk : Nat), v = .ref e → P od → oe.cls = .ref C → oe.dict = some dx → notCls oe = true → KtsTurn (outer.filterMap (·.frame)) g g' → Fr g' L h' (fun y => if y = n then some (.ref e) else m y) → News g' L h' [(e, oe), (dx, od)] → Below A₀ base outer g' → KF.In g' → Top p loose mean mg mb g' →
      wpAny (model prog w) ((A₀.deeper (envOf name scope L a cd)).mark (some (.ref e))) (execs (b₀ :: suite) (envOf name scope L a cd))
        (fun f s₄ => wpAny (model prog w) (A₀.deeper (envOf name scope L a cd)) (do bindName (envOf name scope L a cd) n .none; unbindBehindTheSuite (envOf name scope L a cd) n pos) (fun _ s₅ => Q f s₅) E s₄)
        (fun _ _ => False)
        { s' with heap := h', toks := tk })
    (hk : scope.kind = .function := by rfl) (hlo : (envOf name scope L a cd).kindOf n = some .local := by rfl)
    (hx : (envOf name scope L a cd).kindOf x = some .globalImplicit := by rfl) (hd : (x == ("__debug__" : Str)) = false := by decide) :
    wpAny (model prog w) (A₀.deeper (envOf name scope L a cd)) (noteFrame v (envOf name scope L a cd)) (fun _ s₂ => wpAny (model prog w) (A₀.deeper (envOf name scope L a cd)) (setFlight v none) (fun _ s₃ =>
      wpAny (model prog w) (A₀.deeper (envOf name scope L a cd)) (handleBy v (envOf name scope L a cd) (.ExceptHandler (some (.Name x np)) (some n) (b₀ :: suite) pos :: rest)) Q E s₃) E s₂) E s' := by
  have hA := Around.frames_deeper (env := envOf name scope L a cd) K.stack
  refine exc_note K hA rfl hk (left_excS F₀ R) fun h₁ R₁ => ?_
  refine exc_flight R₁ (.inl rfl) fun h₂ R₂ => ?_
  have R₂' := R₂
  obtain ⟨e, dx, od, G₂, m₂, fl, rfl, hP, _, F₂, hU₂, B, b1, b2, b3, hF⟩ := R₂'
  obtain ⟨g₅, oe₅, T₅, F₅, N₅, hoc, hod, _, K₅⟩ := kts_groundD K F₂ hU₂ b2 b3.2.1 b3.1 hF
  have X₅ : KF.In g₅ := XB.keeps K₅.stays
  have he₅ := (N₅ (e, oe₅) (.head _)).1
  have LT : Looks (model prog w) h₂ (typeOf (.ref e)) (.ref C) := by
    rw [← hoc]
    exact (Looks.ld he₅).andThen .now
  refine wpAny_handleBy_cons (codeAny_handlers_test (kts_name hc F₅ X₅ (topRead_of (TB.keeps K₅.stays)) ((exm_one (X₅.keeps F₅.keep) LT hex).here ?_) hk hx hd)) (by intro q; cases q)
  refine codeAny_handlers_suite_as ?_
  refine exc_flight R₂ (.inl rfl) fun h₃ R₃ => ?_
  obtain ⟨e', dx₃, od₃, G₃, m₃, fl₃, he', hP₃, _, F₃, hU₃, B₃, c1, c2, c3, hF₃⟩ := R₃
  cases he'
  obtain ⟨g₆, oe₆, T₆, F₆, N₆, hoc₆, hod₆, hnc₆, K₆⟩ := kts_groundD K F₃ hU₃ c2 c3.2.1 c3.1 hF₃
  refine stN F₆ N₆ (fun h₇ F₇ N₇ => ?_) hk hlo
  refine wpAny_mono (k h₇ g₆ m₃ e dx₃ oe₆ od₃ _ rfl hP₃ hoc₆ hod₆ hnc₆ T₆ F₇ N₇ K₆ (XB.keeps K₆.stays) (TB.keeps K₆.stays)) (fun _ _ z => z) fun _ _ z => z.elim
end
end Mine
end
section
set_option maxRecDepth 100000
namespace Mine
open PySem PySem.W PySem.Calls PyProof.Rows
open Sem (wp)
def LeaveC (fs : List Addr) (s₀ : Heap) (hid : List Addr) (h₀ : Heap) (L : Addr) (m : Str → Option Value) (g : Heap) (R : Result → Shared → Prop) (v : Value) (s' : Shared) : Prop :=
  ∃ g' L' m' news', KtsTurn fs g g' ∧ Fr g' L' s'.heap m' ∧ News g' L' s'.heap news' ∧
    (Fr h₀ L s'.heap m → News h₀ L s'.heap news' → (∀ b o, s₀.get? b = some o → b ∉ hid → b ≠ L → s'.heap.get? b = some o) → R (.ok (.ret v)) s')
section
variable {prog : Program} {w : World} {A₀ A : Around} {s : Shared} {base h₀ : Heap} {outer : List Env} {L : Addr} {m : Str → Option Value} {env : Env} {news : List (Addr × Obj)} {K : Frag}
  {p : Program} {loose : List Str} {mean : ExcName → Option Value} {mg mb : Str → Option Value}
  {R : Result → Shared → Prop} {name qual : Str} {params : Arguments} {body : List Stmt} {scope : Scope} {dV kV doc pm cdv ct oc : Value} {an od : Option Addr} {osl : Array (Option Value)} {f : Addr} {args : Args} {binds : List (Str × Value)}
theorem enterC (fs : List Addr) (hfs : ∀ b ∈ fs, b = L) (B : Below A₀ base outer h₀) (F : Fr h₀ L s.heap m) (N : News h₀ L s.heap news) (X₀ : K.In h₀) (T : Top p loose mean mg mb h₀) (hA : A.frames = some (env :: outer)) (hf : env.frame = some L) (hke : env.scope.kind = .function)
    (ho : K.lookup f = some ⟨oc, od, .func (fnOf name qual params body scope dV kV doc pm an cdv ct), osl⟩) (hcd : codeIn K cdv qual = true) (hroom : A.depth < recursionLimit)
    (hbind : BindsTo s (fnOf name qual params body scope dV kV doc pm an cdv ct) args binds) (hloc : ∀ y ∈ binds, scope.names.lookup y.1 = some .local)
    (h : ∀ g L' h₁, Fr h₀ L g m → Fr g L' h₁ (fun y => binds.reverse.lookup y) → News g L' h₁ news → Below A base (env :: outer) g → h₀.StaysIn g → K.In g → Top p loose mean mg mb g → (∀ p ∈ news, p.1 < L') →
      wpC (model prog w) (A.deeper (envOf qual scope L' f cdv)) (execs body (envOf qual scope L' f cdv))
        (fun fl s' => LeaveC fs s.heap (news.map (·.1)) h₀ L m g R (match fl with | .ret v => v | _ => .none) s')
        (fun e s' => wpAny (model prog w) (A.deeper (envOf qual scope L' f cdv)) (leaving (envOf qual scope L' f cdv) e) (fun _ s'' => R (.error e) s'') (fun e' s'' => R (.error e') s'') s')
        { s with heap := h₁, toks := s.toks + binds.length })
    (hcell : ∀ x ∈ scope.names, x.2 ≠ .cell) (hco : scope.isCoroutine = false := by rfl) (hgen : scope.isGenerator = false := by rfl) (hk : scope.kind = .function := by rfl) : codeC (model prog w) A (.call (.ref f) args) R s := by
  obtain ⟨FG, BG, st, lv⟩ := groundX (R := R) B F N hA hf hke
  have X := X₀.keeps F.keep
  refine codeC_call_def (fd := fnOf name qual params body scope dV kV doc pm an cdv ct) (body := body) (binds := binds) hroom (X _ _ ho) rfl (T.nolimit.keeps F.keep) (codeRec_of X hcd) rfl hbind hcell hloc (fun h₁ hns hk₁ => ?_) hco hgen hk
  refine wpC_mono (h _ s.heap.objs.size h₁ FG ⟨hns, fun b o e => hk₁ b o (of_hideAll _ e), Nat.le_of_eq (hideAll_size _ _)⟩
    (fun p hp => ⟨hk₁ _ _ (N p hp).1, Nat.ne_of_lt (Heap.lt_size (N p hp).1), hideAll_none _ (List.mem_map_of_mem hp)⟩) BG st (X₀.keeps st) (T.keeps st) (fun p hp => Heap.lt_size (N p hp).1)) (fun fl s' hl => ?_) fun _ _ y => y
  obtain ⟨g', L', m', news', T', F', N', k⟩ := hl
  have nL₀ : h₀.get? L = none := kts_self F
  obtain ⟨oL, es, ep, hLg, hLd, hLk, hLf⟩ := FG.ns
  obtain ⟨sl, hs⟩ := T'.up hLg
  refine k ⟨⟨_, es, ep, F'.keep _ _ hs, hLd, hLk, hLf⟩, fun b o e => F'.keep b o (T'.other b o (st b o e) (fun q => by
    rw [hfs b q, nL₀] at e
    cases e)), F.above⟩ (fun p hp => ⟨(N' p hp).1, fun q => ?_, ?_⟩) fun b o e hn hb => F'.keep b o (T'.other b o (hideAll_get _ e hn) fun q => hb (hfs b q))
  · have := (N' p hp).2.2; rw [q, hs] at this; cases this
  · cases q : h₀.get? p.1 with
    | none => rfl
    | some o =>
      obtain ⟨sl', hs'⟩ := T'.up (st _ _ q)
      have := (N' p hp).2.2
      rw [hs'] at this
      cases this
end
theorem leaveC_ {fs : List Addr} {s₀ : Heap} {hid : List Addr} {h₀ g : Heap} {L L' : Addr} {m m' : Str → Option Value} {news' : List (Addr × Obj)} {R : Result → Shared → Prop} {v : Value} {s' : Shared} (F' : Fr g L' s'.heap m') (N' : News g L' s'.heap news')
    (k : Fr h₀ L s'.heap m → News h₀ L s'.heap news' → (∀ b o, s₀.get? b = some o → b ∉ hid → b ≠ L → s'.heap.get? b = some o) → R (.ok (.ret v)) s') : LeaveC fs s₀ hid h₀ L m g R v s' := ⟨g, L', m', news', .refl, F', N', k⟩
theorem news_over {h₀ h h' : Heap} {L : Addr} {news : List (Addr × Obj)} {hid : List Addr} (N : News h₀ L h news) (k : ∀ b o, h.get? b = some o → b ∉ hid → b ≠ L → h'.get? b = some o) (hn : ∀ p ∈ news, p.1 ∉ hid) : News h₀ L h' news :=
  fun p hp => ⟨k _ _ (N p hp).1 (hn p hp) (N p hp).2.1, (N p hp).2⟩
end Mine
end
section
set_option maxRecDepth 100000
namespace Mine
open PySem PySem.W PySem.Calls PyProof.Rows
open Sem (wp)
section
variable {prog : Program} {w : World} {A : Around} {R : Result → Shared → Prop} {s : Shared} {env : Env}
theorem codeC_whileLoop {test : Expr} {body orelse : List Stmt} (I : Nat → Shared → Prop)
    (turn : ∀ n s, I n s →
      wpC (model prog w) A (isTrue test env (eval test env)) (fun b s₂ =>
        if b = true then wpC (model prog w) A (execs body env) (fun f s₃ => match f with
            | .next | .cont => ∃ m, m < n ∧ I m s₃
            | .brk => R (.ok .next) s₃
            | .ret v => R (.ok (.ret v)) s₃) (notedBy (model prog w) A env fun e s' => R (.error e) s') s₂
        else wpC (model prog w) A (execs orelse env) (fun f s₃ => R (.ok f) s₃) (notedBy (model prog w) A env fun e s' => R (.error e) s') s₂)
        (notedBy (model prog w) A env fun e s' => R (.error e) s') s)
    (n : Nat) (h : I n s) : codeC (model prog w) A (.whileLoop test body orelse env) R s := by
  refine codeC_loop rfl rfl I (fun n s hI => ?_) n h
  show wpC _ A ((whileTurn test body orelse env).onRaise (fun x => do noteFrame x env; theTreesLotGoes x)) _ _ s
  refine wpC_noted ?_
  simp only [whileTurn]
  refine wpC_bind (wpC_mono (turn n s hI) (fun b s₂ h₂ => ?_) fun _ _ h' => h')
  cases b with
  | false =>
    simp only [Bool.false_eq_true, if_false] at h₂ ⊢
    exact wpC_bind (wpC_mono h₂ (fun f s₃ h₃ => wpC_pure h₃) fun _ _ h' => h')
  | true =>
    simp only [if_true] at h₂ ⊢
    refine wpC_bind (wpC_mono h₂ (fun f s₃ h₃ => ?_) fun _ _ h' => h')
    cases f with
    | next => exact wpC_pure (.inl ⟨rfl, h₃⟩)
    | cont => exact wpC_pure (.inl ⟨rfl, h₃⟩)
    | brk => exact wpC_pure h₃
    | ret v => exact wpC_pure h₃
theorem codeC_block {stmts : List Stmt}
    (h : wpC (model prog w) A (execs stmts env) (fun f s' => R (.ok f) s') (notedBy (model prog w) A env fun e s' => R (.error e) s') s) : codeC (model prog w) A (.block stmts env) R s := by
  refine codeC_of_tree rfl ?_
  show wpC _ _ (do return PySem.Fin.done (← (execs stmts env).onRaise (fun x => do noteFrame x env; theTreesLotGoes x))) _ _ s
  exact wpC_bind (wpC_noted (wpC_mono h (fun f s' h' => wpC_pure h') fun _ _ h' => h'))
theorem codeC_forLoop {target : Expr} {it : Value} {body orelse : List Stmt} (I : Nat → Shared → Prop)
    (turn : ∀ n s, I n s → wpAny (model prog w) A (pyNext it) (fun r s₁ => match r with
      | none => wpC (model prog w) A (execs orelse env) (fun f s₃ => R (.ok f) s₃) (notedBy (model prog w) A env fun e s' => R (.error e) s') s₁
      | some v => wpAny (model prog w) A (letOwnedTupleGo target it v) (fun _ s₁' =>
          wpAny (model prog w) A (assign target env v) (fun _ s₂ => wpC (model prog w) A (execs body env) (fun f s₃ => match f with
            | .next | .cont => ∃ m, m < n ∧ I m s₃
            | .brk => R (.ok .next) s₃
            | .ret v => R (.ok (.ret v)) s₃) (notedBy (model prog w) A env fun e s' => R (.error e) s') s₂) (notedBy (model prog w) A env fun e s' => R (.error e) s') s₁') (notedBy (model prog w) A env fun e s' => R (.error e) s') s₁) (notedBy (model prog w) A env fun e s' => R (.error e) s') s)
    (n : Nat) (h : I n s) : codeC (model prog w) A (.forLoop target it body orelse env) R s := by
  refine codeC_loop rfl rfl I (fun n s hI => ?_) n h
  show wpC _ A ((forTurn target it body orelse env).onRaise (fun x => do noteFrame x env; theTreesLotGoes x)) _ _ s
  refine wpC_noted ?_
  simp only [forTurn]
  refine wpC_standAt (wpC_first (wpAny_onRaise (wpAny_mono (turn n s hI) (fun r s₁ h₁ => ?_) fun _ _ h' => wpAny_standAt h')))
  cases r with
  | none => exact wpC_pure (.inr ⟨rfl, codeC_block h₁⟩)
  | some v =>
    refine wpC_first (wpAny_mono h₁ (fun _ s₁' h₁' => ?_) fun _ _ h' => h')
    refine wpC_first (wpAny_mono h₁' (fun _ s₂ h₂ => wpC_bind (wpC_mono h₂ (fun f s₃ h₃ => ?_) fun _ _ h' => h')) fun _ _ h' => h')
    cases f with
    | next => exact wpC_pure (.inl ⟨rfl, h₃⟩)
    | cont => exact wpC_pure (.inl ⟨rfl, h₃⟩)
    | brk => exact wpC_pure h₃
    | ret v => exact wpC_pure h₃
end
end Mine
end
section
set_option maxRecDepth 100000
namespace Mine
open PySem PySem.W PySem.Calls PyProof.Rows PyProof.V
open Sem (wp)
theorem gives_bytes_in {b : Array UInt8} {t u : Tok} {i : Int} (h0 : 0 ≤ i) (h1 : i < 256) : Gives (Builtin.«bytes.__contains__» ⟨[.bytes b t, .int i u], []⟩) (.val (.bool (b.contains i.toNat.toUInt8))) := by
  refine .of_wp fun M A E s Q hq => ?_
  show wpAny M A (Builtin.Bytes.containsIn "bytes.__contains__" (.bytes b t) (.int i u) >>= fun r => ret (.bool r)) _ E s
  unfold Builtin.Bytes.containsIn
  refine wpAny_bind (wpAny_bind (wpAny_attempt (wpAny_of_eq (rfl : asIndex (.int i u) = pure i) ?_)))
  rw [KBy.buffer_eq]
  refine wpAny_bind (wpAny_pure ?_)
  dsimp only
  refine bm_if_false (by simp only [Bool.or_eq_false_iff, decide_eq_false_iff_not]; omega) ?_
  exact wpAny_pure (wpAny_pure ⟨_, rfl, hq⟩)
theorem contains_crlf {i : Int} (h0 : 0 ≤ i) (h1 : i < 256) : (#[13, 10] : Array UInt8).contains i.toNat.toUInt8 = decide (i = 13 ∨ i = 10) := by
  have e : ((i.toNat.toUInt8).toNat : Int) = i := by
    have h1 : (i.toNat.toUInt8).toNat = i.toNat := by
      first
        | (show (UInt8.ofNat i.toNat).toNat = i.toNat; rw [UInt8.toNat_ofNat']; omega)
        | (simp; omega)
    rw [h1]
    omega
  have key : ∀ c : UInt8, (#[13, 10] : Array UInt8).contains c = decide ((c.toNat : Int) = 13 ∨ (c.toNat : Int) = 10) := fun c => by
    have h1 : c = 13 ↔ (c.toNat : Int) = 13 := by
      rw [← UInt8.toNat_inj]
      show c.toNat = 13 ↔ _
      omega
    have h2 : c = 10 ↔ (c.toNat : Int) = 10 := by
      rw [← UInt8.toNat_inj]
      show c.toNat = 10 ↔ _
      omega
    rw [Bool.eq_iff_iff, decide_eq_true_iff, ← h1, ← h2]
    simp
  rw [key, e]
theorem in_crlf {prog : Program} {w : World} {A : Around} {E : Value → Shared → Prop} {s : Shared} {i : Int} {t u : Tok} {Q : Value → Shared → Prop} (h0 : 0 ≤ i) (h1 : i < 256) (h : Q (.bool (decide (i = 13 ∨ i = 10))) s) :
    wpAny (model prog w) A (compareOp .In (.int i u) (.bytes #[13, 10] t)) Q E s := by
  refine in_gives (typeIs_bytes s _ t) FB.slot_bytes_contains FB.entry_bytes_contains (FB.args_bytes_contains_2 _ _) (gives_bytes_in h0 h1) ?_
  rw [contains_crlf h0 h1]
  exact h
end Mine
end
section
set_option maxRecDepth 100000
namespace Mine
open PySem PySem.W PySem.Calls PyProof.Rows PySem.Spec
open Sem (wp)
theorem enter_callC {M : Model} {A : Around} {s : Shared} {f : Value} {pos : List Value} {kw : List (Str × Value)} {c : ClaimW} {cl : Str → Option Addr} {mean : ExcName → Option Value} {args : List WData} {s₁ : Shared}
    (h : codeC M A (.call f ⟨pos, kw⟩) (GoodWG c cl mean args s₁) s) : wpC M A (PySem.call f pos kw) (fun v s' => GoodWG c cl mean args s₁ (.ok (.ret v)) s') (fun e s' => GoodWG c cl mean args s₁ (.error e) s') s :=
  wpC_call (codeC_mono h fun res s' g => by rcases g.1 with ⟨v, _, _, rfl, _⟩ | ⟨e, _, _, rfl, _⟩ <;> exact g)
theorem callC_cellsN {prog : Program} {w : World} {A : Around} {R : Result → Shared → Prop} {s : Shared} {name : Str} {params : Arguments} {body : List Stmt} {scope : Scope}
    {pm cd doc : Value} {a : Addr} {o : Obj} {args : List Value} {binds : List (Str × Value)}
    (hroom : A.depth < recursionLimit) (ho : s.heap.get? a = some o) (hdata : o.data = .func (Calls.docDef name params body scope pm cd doc)) (hlim : s.heap.NoLimit) (hcd : s.heap.CodeRec cd name)
    (hbind : bindArgs (Calls.docDef name params body scope pm cd doc) ⟨args, []⟩ = pure binds)
    (hkind : ∀ x ∈ binds, scope.names.lookup x.1 = some .local ∨ (scope.names.lookup x.1 = some .cell ∧ ((cellsFrom (s.heap.objs.size + 1) scope.names []).lookup x.1).isSome = true))
    (hnd : ((cellsFrom 0 scope.names []).map (·.1)).Nodup)
    (h : ∀ h₁ tk cells, Fr s.heap s.heap.objs.size h₁ (bindL (envOfC name scope s.heap.objs.size a cd).kindOf binds fun _ => none) → News s.heap s.heap.objs.size h₁ cells →
      CellsAre (bindC (envOfC name scope s.heap.objs.size a cd).kindOf binds fun _ => none) (cellsFrom (s.heap.objs.size + 1) scope.names []) cells →
      wpC (model prog w) (A.deeper (envOfC name scope s.heap.objs.size a cd)) (execs body (envOfC name scope s.heap.objs.size a cd))
        (fun f s' => R (.ok (.ret (match f with | .ret v => v | _ => .none))) s')
        (fun e s' => wpAny (model prog w) (A.deeper (envOfC name scope s.heap.objs.size a cd)) (leaving (envOfC name scope s.heap.objs.size a cd) e)
          (fun _ s'' => R (.error e) s'') (fun e' s'' => R (.error e') s'') s')
        { s with heap := h₁, toks := tk })
    (hco : scope.isCoroutine = false := by rfl) (hgen : scope.isGenerator = false := by rfl) (hk : scope.kind = .function := by rfl) :
    codeC (model prog w) A (.call (.ref a) ⟨args, []⟩) R s := by
  refine codeC_call_function hroom ho hdata hco hgen rfl hcd ?_
  rw [hbind]
  refine wpAny_pure ?_
  refine wpAny_newFunctionEnv_cells hk hkind fun env' he s' x => ?_
  subst he
  refine ⟨hlim.keeps x.toInCall.keep, codeC_func ?_⟩
  obtain ⟨h₁, tk, rfl, _⟩ := x.done
  obtain ⟨cells, NC, Y⟩ := Cl.news (h₀ := s.heap) (Nat.le_refl _) fun n c hm => ⟨x.cell n c (lookup_of_mem_nodup (cellsFrom_names scope.names 0 (s.heap.objs.size + 1) [] [] rfl ▸ hnd) hm), x.above n c hm⟩
  exact h h₁ tk cells ⟨x.toInCall.ns, x.toInCall.keep, x.toInCall.fresh⟩ NC Y
end Mine
end
section
set_option maxRecDepth 100000
namespace Mine
open PySem PySem.W PySem.Calls PyProof.Rows PyProof.V PySem.SeqAt
theorem eqAt_bytes {A : Around} {s : Shared} {b c : Array UInt8} {t u : Tok} : EqAt A s (.bytes b t) (.bytes c u) (b.toList == c.toList) := fun prog w E Q h => by
  unfold eqBool
  refine wpAny_holding ?_
  refine wpAny_ite_split (fun hab => ?_) (fun _ => ?_)
  · have e := eq_of_beq hab
    injection e with e1 e2
    subst e1
    rw [beq_self_eq_true] at h
    exact wpAny_bind (wpAny_rule (wpAny_pure h))
  · exact wpAny_bind (show wpAny _ _ (richCompare .Eq _ _) _ _ _ from eq_bytes (wpAny_truthy_bool h))
end Mine
namespace Mine
open PySem PySem.W PySem.Calls PyProof.Rows PyProof.V PySem.SeqAt
abbrev tupBI (b : Array UInt8) (t : Tok) (e : Int) (u : Tok) (n : Nat) : Obj := { cls := .type "tuple", data := .seq #[.bytes b t, .int e u] n }
section
variable {prog : Program} {w : World} {A : Around} {E : Value → Shared → Prop} {s : Shared} {l l2 : Addr} {b : Array UInt8} {t t2 u u2 : Tok} {e : Int} {n n2 : Nat} {Q : Value → Shared → Prop}
theorem items_same (j : Nat) (h1 : j < (#[.bytes b t, .int e u] : Array Value).size) (h2 : j < (#[.bytes b t2, .int e u2] : Array Value).size) :
    EqAt A s (#[.bytes b t, .int e u] : Array Value)[j] (#[.bytes b t2, .int e u2] : Array Value)[j] true := by
  match j, h1, h2 with
  | 0, _, _ =>
    have z := eqAt_bytes (A := A) (s := s) (b := b) (c := b) (t := t) (u := t2)
    rw [beq_self_eq_true] at z
    exact z
  | 1, _, _ =>
    have z := EqAt.int_int (A := A) (s := s) e u e u2
    rw [beq_self_eq_true] at z
    exact z
theorem tup_eq_same (hl : s.heap.get? l = some (tupBI b t e u n)) (h2 : s.heap.get? l2 = some (tupBI b t2 e u2 n2)) (hu : A.units < cLine) (h : Q (.bool true) s) : wpAny (model prog w) A (compareOp .Eq (.ref l) (.ref l2)) Q E s :=
  eq_tupleAt (items := #[.bytes b t, .int e u]) (items2 := #[.bytes b t2, .int e u2]) (e := fun _ => true) ⟨_, hl, rfl, _, rfl⟩ ⟨_, h2, rfl, _, rfl⟩ hu (fun j a c => items_same j a c) h
theorem tup_ne_same (hl : s.heap.get? l = some (tupBI b t e u n)) (h2 : s.heap.get? l2 = some (tupBI b t2 e u2 n2)) (hu : A.units < cLine) (h : Q (.bool false) s) : wpAny (model prog w) A (compareOp .NotEq (.ref l) (.ref l2)) Q E s :=
  RcNeAt.tuples (items := #[.bytes b t, .int e u]) (items2 := #[.bytes b t2, .int e u2]) (e := fun _ => true) ⟨_, hl, rfl, _, rfl⟩ ⟨_, h2, rfl, _, rfl⟩ hu (fun j a c => items_same j a c) prog w E Q h
end
end Mine
end
section
set_option maxRecDepth 100000
namespace Mine
open PySem PySem.W PySem.Calls PyProof.Rows
open Sem (wp)
theorem wpC_at {M : Model} {A : Around} {Γ : Ctx} {t : Sem PySem.Fin} {R : Result → Shared → Prop} {s : Shared} (hin : Γ.In A) (h1 : holdsBa Γ.code = false) (h2 : CleanL Γ.below)
    (h : wpC M A t (fun fin s' => ∃ f, fin = .done f ∧ R (.ok f) s') (fun e s' => R (.error e) s') s) (p : Pos) :
    wp M Γ t (Sem.finPost M Γ R) (fun e _ s' => R (.error e) s') p s :=
  Sem.wp_mono M Γ t (fun fin p' s' h' => by obtain ⟨f, rfl, hf⟩ := h'; exact hf) (fun _ _ _ h' => h') p s (h Γ p hin h1 h2)
theorem thread_endsC {prog : Program} {w : World} {t : Sem PySem.Fin} {s : Shared} {R : Result → Shared → Prop} (hreg : s.asleep)
    (h : wpC (model prog w) callerA t (fun fin s' => ∃ f, fin = .done f ∧ (R (.ok f) s' ∧ leftWithCleanup s'.gens = false)) (fun e s' => R (.error e) s' ∧ leftWithCleanup s'.gens = false) s) :
    ∃ n r s' s'', runN (denote table) prog w n s ⟨t, .builtin "claim.caller" {}, default, []⟩ = .halted (outcomeOf r) s' ∧
      schedN (denote table) prog w n (.single s ⟨t, .builtin "claim.caller" {}, default, []⟩) = .halted (outcomeOf r) s' ∧ s'.forget = s''.forget ∧ R r s'' := by
  obtain ⟨n, r, s₁, s₂, hs, hn, hfo, hR⟩ := wp_halts_full (M := model prog w) (R := R) hreg
    (wpC_at (R := fun r s' => R r s' ∧ leftWithCleanup s'.gens = false) caller_in (by decide +kernel) (fun x hx => nomatch hx) h default)
  exact ⟨n, r, s₂, s₁, hn, hs, hfo, hR⟩
theorem callFromC {c : ClaimW} {tree : List Value → Sem PySem.Fin} {w : World} {s : Shared} {free : Addr → Prop} {gens : Prop} {kept : Heap → Prop} (hz : s.asleep) (hgens : s.gens = #[])
    (spec : ∀ args, c.pre args = true → WData.layableAll args = true → ∀ ord : List DictEntry → List DictEntry, (∀ l, (ord l).Perm l) →
      ∃ vs s₁, layAllW c.records (classAt s.heap) w.params ord args s = some (vs, s₁) ∧
        wpC (model c.prog w) callerA (tree vs) (fun fin s' => ∃ f, fin = .done f ∧ (c.Ends s args vs s₁ (.ok f) s' ∧ s'.os = s.os ∧ AllBare s'.gens ∧ kept s'.heap))
          (fun e s' => c.Ends s args vs s₁ (.error e) s' ∧ s'.os = s.os ∧ AllBare s'.gens ∧ kept s'.heap) s₁) :
    c.CallFrom (fun vs => ⟨tree vs, .builtin "claim.caller" {}, default, []⟩) w free gens kept s := by
  intro args hpre hlay ord hord
  obtain ⟨vs, s₁, hlaid, hcode⟩ := spec args hpre hlay ord hord
  have hal := layAllW_rest _ _ _ hlaid
  have main := thread_endsC (prog := c.prog) (w := w) (t := tree vs) (s := s₁) (R := fun r s' => c.Ends s args vs s₁ r s' ∧ s'.os = s.os ∧ kept s'.heap) (Shared.asleep_of_life hal.2.2.2 hz)
    (wpC_mono hcode
      (fun fin s' ⟨f, e, x1, x2, x3, x4⟩ => ⟨f, e, ⟨x1, x2, x4⟩, leftWithCleanup_false_of_bare x3⟩)
      (fun e s' ⟨x1, x2, x3, x4⟩ => ⟨⟨x1, x2, x4⟩, leftWithCleanup_false_of_bare x3⟩))
  obtain ⟨k, r, s', s'', hrun, hsched, hfo, hends, hos, hkp⟩ := main
  obtain ⟨eh, _, _, eo, _⟩ := Shared.forget_eq hfo
  have ends := hends.congr eh
  have kp : kept s'.heap := by first | exact eh ▸ hkp | (rw [eh] at hkp; exact hkp) | (rw [← eh] at hkp; exact hkp)
  rw [← eo] at hos
  have life : s'.heap.life = s.heap.life := (runN_life _ _ _ hrun).trans hal.2.2.2
  refine ⟨vs, s₁, hlaid, k, _, s', hsched, ?_, fun _ i x hx => by rw [hgens] at hx; simp at hx, kp, by rw [life], Shared.rest_eq hos⟩
  rcases ends with ⟨v, rfl, d1, d2, d3, d4, d5⟩ | ⟨e, ob, cls, rfl, d1, d2, d3, d4, d5⟩
  · exact .inl ⟨v, rfl, d1, d2, d3, fun b o y _ => d4 b o y, d5⟩
  · exact .inr ⟨e, ob, cls, rfl, d1, d2, d3, d4, fun b o y _ => d5 b o y⟩
abbrev WalkC (q : Program) (loose : List Str) (XP : (Str → Option Value) → Heap → Prop) (YP : World → Heap → Prop) (r : RowW) (d : DefRec) (kwd : List (Str × Expr)) (run : Value → List Value → Sem Value) : Prop :=
  ∀ (w : World) (s₀ s₁ : Shared) (mg mb : Str → Option Value), Ground q loose r.records XP w s₀ mg mb s₁.heap → YP w s₁.heap → ∀ (a : Addr) (o : Obj) (pm cd doc dV kV : Value), s₁.heap.get? a = some o →
    o.data = .func { docDef d.name d.params d.body d.scope pm cd doc with defaults := dV, kwdefaults := kV } → s₁.heap.CodeRec cd d.name → Dflts mg s₁.heap d.params kwd dV kV → mg d.name = some (.ref a) → s₁.gens = #[] →
    ∀ (args : List WData) (vals : List Value) (as : List Addr), r.claim.pre args = true → WData.layableAll args = true → ReadsAllW r.records (classAt s₀.heap) s₁.heap vals args as → WellAll w.params s₁.heap vals args → (∀ a ∈ as, (a == sysModules) = false) →
      wpC (model r.prog w) callerA (run (.ref a) vals) (fun v s' => GoodWG r.claim (classAt s₀.heap) (ExcName.means s₀.heap) args s₁ (.ok (.ret v)) s')
        (fun e s' => GoodWG r.claim (classAt s₀.heap) (ExcName.means s₀.heap) args s₁ (.error e) s') s₁
theorem PySem.W.holds_open {r : OpenRow} {q : Program} {loose : List Str} {Xt : Shared → Bool} {XP : (Str → Option Value) → Heap → Prop} {α : Type} {Yf : Shared → α} {Ya : World → α} {YP : World → Heap → Prop} {d : DefRec} {kwd : List (Str × Expr)} {N : Nat}
    (left : LeftO r.prog q loose Xt Yf Ya N) (hY : ∀ w s, Yf s = Ya w → YP w s.heap) (hYk : ∀ w h h', YP w h → (∀ b o, h.get? b = some o → h'.get? b = some o) → YP w h')
    (hX : ∀ s, Xt s = true → XP (s.heap.nsMap mainGlobals) s.heap) (hXk : ∀ mg h h', XP mg h → (∀ b o, h.get? b = some o → h'.get? b = some o) → XP mg h')
    (hdef : defOf q r.name = some (d, kwd)) (hp : r.prog.theDef r.name = some (d.params, d.body, d.scope)) (hk : kwWritten? d.params.kwonlyargs d.params.kw_defaults = some kwd) (hRf : ∀ s, Xt s = true → RecFacts r.records s.heap) (hwr : (!r.writes || r.records.isEmpty) = true)
    (k1 : r.wellSaid = true) (ok : (chainsOk q && opensWell r.prog && (frees r.toRowW && r.within.isEmpty)) = true) (hb : r.prog.bare) (hw : r.toRowW.promised)
    (call : WalkC q loose XP YP r.toRowW d kwd fun f vs => PySem.call f vs) : r.Holds := by
  obtain ⟨ok, k5⟩ := Bool.and_eq_true_iff.mp ok
  obtain ⟨hch, o1⟩ := Bool.and_eq_true_iff.mp ok
  obtain ⟨k5, k6⟩ := Bool.and_eq_true_iff.mp k5
  obtain ⟨hsame, hu, ha, hap, hm⟩ := frees_parts k5
  refine ⟨k1, hw, ⟨⟨hb, o1, by show r.makers.map _ = []; rw [hm]; rfl⟩, hw.witness, fun w => ⟨(left.behind hX hch w).1, fun s' hs' => ?_⟩⟩⟩
  obtain ⟨s₀, hf, hg0, s, hT, hz, hgens, hg, G00, y⟩ := (left.behind (XP := fun mg h => XP mg h ∧ RecFacts r.records h) (fun s hs => ⟨hX s hs, hRf s hs⟩) hch w).2 s' hs'
  have G0 : Ground q loose [] XP w s (s.heap.nsMap mainGlobals) (s.heap.nsMap builtinsNs) s.heap := ⟨G00.T, G00.B, G00.D, G00.TE, G00.TD, G00.W, G00.X.1, G00.cls, G00.has, G00.apart, G00.once, G00.K⟩
  have RF := G00.X.2
  have hT' := hT
  refine ⟨s₀, hf, hg0, s, hT, (fun n hn => ?_), RF.1, RF.2.1, ?_⟩
  · obtain rfl : n = r.name := by split at hn <;> simp_all
    exact pinned_of_view hg G0 hdef hp hk
  have hgens : s.gens = #[] := Array.eq_empty_of_size_eq_zero (beq_iff_eq.mp hgens)
  have G : Ground q loose r.records XP w s _ _ s.heap := RF.ground G0
  refine callFromC (c := r.toRowW.claim) hz hgens fun args hpre hlay ord hord => ?_
  obtain ⟨⟨vs, s₁⟩, hlaid⟩ := Option.isSome_iff_exists.mp (layAllW_isSome (P := w.params) (ord := ord) G.has args r.args s (pre_splitW hpre).1)
  have keeps := layAllW_keeps _ _ _ hlaid
  have hal := layAllW_rest _ _ _ hlaid
  obtain ⟨as, hrd, hin, hold⟩ := reads_layAllW hord _ _ _ hlaid hlay s₁.heap (fun _ _ e => e)
  have L : Laid r.records w s s₁ args vs as := ⟨⟨ord, hord, hlaid⟩, hrd, hin, hold, keeps, hal.1.trans hgens, hal.2.2.1⟩
  have G₁ := G.keeps hXk keeps
  have hi := ident_freeW hu ha hap
  have hwi : r.toRowW.claim.within = [] := List.isEmpty_iff.mp k6
  obtain ⟨a, o, pm, cd, doc, dV, kV, h1, h2, h3, h4, h5⟩ := G₁.fn hdef
  have main := call w s s₁ _ _ G₁ (hYk _ _ _ (hY w s y) keeps) a o pm cd doc dV kV h2 h3 h4 h5 (defOf_name hdef ▸ h1) L.gens args vs as hpre hlay L.reads L.well (L.low G.low)
  refine ⟨vs, s₁, hlaid, ?_⟩
  show wpC _ _ (nsGet mainNs r.name >>= _) _ _ _
  refine wpC_first (wpAny_nsGet G₁.T.g ?_)
  rw [h1]
  refine wpC_bind (wpC_mono main (fun v s' g => wpC_pure ⟨_, rfl, ?_⟩) fun e s' g => ?_)
  · have z := g.laid (c := r.toRowW.claim) hsame hwi hi L
    exact ⟨z.1, z.2.1, z.2.2, fun q => ⟨namesKept_of hT' hg _ keeps g.2.1.old, noTable hwr q⟩⟩
  · have z := g.laid (c := r.toRowW.claim) hsame hwi hi L
    exact ⟨z.1, z.2.1, z.2.2, fun q => ⟨namesKept_of hT' hg _ keeps g.2.1.old, noTable hwr q⟩⟩
end Mine
end
section
open PySem PySem.W PyProof.Rows
set_option maxRecDepth 100000
set_option maxHeartbeats 8000000
namespace Mine
/- The hook (the objects of the text's own top, written out) ahead of the head, so that lemmas may name it. -/
abbrev HoldsW (_ : Hook) (r : OpenRow) : Prop := OpenRow.Holds r
theorem holdsW {r : OpenRow} (H : Hook) (h : r.Holds) : HoldsW H r := h
abbrev pickHook {r : OpenRow} (H : Hook) (_ : r.Holds → HoldsW H r) : Hook := H
local macro_rules | `(tactic| o_head $H) => `(tactic| (refine holdsW $H ?_; assumption))
noncomputable def hook : Hook := by
  refine' pickHook (r := PySem.Challenge.rw_or0055_01.row) _ (fun h => ?p)
  case p => k_head
end Mine
end
section
open PySem PySem.W PySem.Calls PyProof.Rows
set_option maxRecDepth 100000
set_option maxHeartbeats 8000000
namespace Mine
noncomputable abbrev KF (w : World) : Frag := Mine.hook.heap_1 w.params
section
variable {M : Model} {A : Around} {E : Value → Shared → Prop} {s : Shared} {env : Env} {K : Frag} {pos : Pos} {f : Value} {first : List Value} {Q : Value → Shared → Prop}
theorem callWithC_K {h₀ : Heap} {e : Expr} {rest : List Expr} (_X : K.In h₀) (hk : keepIn K f = true) (h : wpAny M A (spliced (backTo pos (starEach (e :: rest) env))) (fun vs s₁ => K.In s₁.heap ∧ wpC M A (call f (first ++ vs)) Q E s₁) E s)
    (he : starEach (e :: rest) env = (false, eval e env) :: starEach rest env := by rfl) (hplain : (backTo pos (starEach rest env)).any (·.1) = false := by rfl) :
    wpC M A (callWith pos f first (backTo pos (starEach (e :: rest) env)) []) Q E s := by
  rw [he] at h ⊢
  exact wpC_callWith (by show (false || (backTo pos (starEach rest env)).any (·.1)) = false; rw [hplain]; rfl) (keeps_K hk) (evalArgs_plain h)
theorem callWithC_K0 (X : K.In s.heap) (hk : keepIn K f = true) (h : wpC M A (call f (first ++ [])) Q E s) : wpC M A (callWith pos f first (backTo pos (starEach [] env)) []) Q E s :=
  wpC_callWith rfl (keeps_K hk) (evalArgs_nil3 ⟨X, h⟩)
end
section
variable {M : Model} {A : Around} {E : Value → Shared → Prop} {s : Shared} {env : Env} {K : Frag} {pos : Pos}
variable {nm q : Str} {C N : Addr} {bs bm : List Value} {hdct : Bool} {sn : List Str} {sub : List Value} {ab : Bool} {col : Option Bool} {dd : Option Addr} {k0 k1 k2 k3 k5 : Option Value} {newId : String}
theorem raise_stmt_own {x : Sem Value} {Q : Flow → Shared → Prop} (hbase : bm.contains (.type "BaseException") = true) (hh : A.handled = none)
    (h : wpAny M A x (fun v s₁ => ∃ e t dx, v = .ref e ∧ s₁.heap.get? C = some (excClassObj nm q C N bs bm hdct sn sub ab col dd k0 k1 k2 k3 k5 newId) ∧
      s₁.heap.get? e = some (excDict C t dx) ∧ E (.ref e) s₁) E s) :
    wpAny M A (raiseStmt env (some x) none) Q E s := by
  have hcB : (Value.ref C :: bm).contains (.type "BaseException") = true := by rw [List.contains_cons, hbase, Bool.or_true]
  unfold raiseStmt
  refine wpAny_bind (wpAny_mono h (fun v s₁ h₁ => ?_) fun _ _ x => x)
  obtain ⟨e, t, dx, rfl, hC, he, hE⟩ := h₁
  obtain ⟨hp, g, d, tk, os⟩ := s₁
  repeat (first | with_reducible refine wpAny_loadPart_at he ?_ | with_reducible refine wpAny_loadPart_at hC ?_ | (with_reducible refine wpAny_isSubtype_exc hC ?_; rw [hcB]) | wp_step)
  exact wpAny_raiseNew_none hh hE
def RaisePost (g : Heap) (L C : Addr) (E : Value → Shared → Prop) (v : Value) (s₁ : Shared) : Prop := ∃ e t dx m news, v = .ref e ∧ Fr g L s₁.heap m ∧ News g L s₁.heap news ∧ (e, excDict C t dx) ∈ news ∧ E (.ref e) s₁
theorem raise_own {x : Expr} {g : Heap} {L : Addr} {m₀ : Str → Option Value} {Q : Flow → Shared → Prop} (_F : Fr g L s.heap m₀) (X : K.In g) (hh : A.handled = none) (hC : K.lookup C = some (excClassObj nm q C N bs bm hdct sn sub ab col dd k0 k1 k2 k3 k5 newId))
    (hbase : bm.contains (.type "BaseException") = true)
    (h : wpAny M A (eval x env) (RaisePost g L C E) E s) :
    wpAny M A (exec (.Raise (some x) none pos) env) Q E s := by
  rw [arm_exec_Raise]
  simp only [evalOpt, Option.map]
  refine wpAny_bind (wpAny_standAt (raise_stmt_own (C := C) (nm := nm) (q := q) (N := N) (bs := bs) (bm := bm) (hdct := hdct) (sn := sn) (sub := sub) (ab := ab) (col := col) (dd := dd) (k0 := k0) (k1 := k1) (k2 := k2) (k3 := k3) (k5 := k5) (newId := newId) hbase hh (wpAny_bind (wpAny_mono h (fun v s₁ h₁ => ?_) fun _ _ z => z))))
  obtain ⟨e, t, dx, m, news, rfl, F, Nw, hm, hE⟩ := h₁
  exact wpAny_bind (wpAny_standAt (wpAny_pure ⟨e, t, dx, rfl, X.keeps F.keep _ _ hC, (Nw _ hm).1, hE⟩))
end
theorem news_two {h₀ h : Heap} {L : Addr} {l : List (Addr × Obj)} {p q : Addr × Obj} (N : News h₀ L h l) (hp : p ∈ l) (hq : q ∈ l) : News h₀ L h [p, q] := fun x hx => by
  rcases List.mem_cons.mp hx with rfl | hx
  · exact N _ hp
  · rcases List.mem_cons.mp hx with rfl | hx
    · exact N _ hq
    · exact nomatch hx
theorem news_one {h₀ h : Heap} {L : Addr} {l : List (Addr × Obj)} {p : Addr × Obj} (N : News h₀ L h l) (hp : p ∈ l) : News h₀ L h [p] := fun x hx => by
  rcases List.mem_cons.mp hx with rfl | hx
  · exact N _ hp
  · exact nomatch hx
section
variable {M : Model} {A : Around} {E : Value → Shared → Prop} {s : Shared} {env : Env} {pos : Pos} {first : List Value} {Q : Value → Shared → Prop}
theorem callWithC_type {T : String} {args : List (Bool × Sem Value)} (hplain : args.any (·.1) = false)
    (h : wpAny M A (evalArgs (.type T) true args []) (fun a s₁ => wpC M A (call (.type T) (first ++ a.pos) a.kw) Q E s₁) E s) : wpC M A (callWith pos (.type T) first args []) Q E s := by
  unfold callWith
  refine wpC_first (wpAny_holding (wpAny_mono h (fun a s₁ h₁ => wpC_standAt ?_) fun _ _ x => x))
  simp only [hplain, List.any_nil, Bool.or_false]
  refine wpC_first (wpAny_pure ?_)
  exact wpC_bind (wpC_mono h₁ (fun r s₂ hr => wpC_of (wpAny_bind (wpAny_holding (wpAny_point (wpAny_pure hr))))) fun _ _ x => x)
theorem callWithC_builtin {id : String} {args : List (Bool × Sem Value)} (hplain : args.any (·.1) = false)
    (h : wpAny M A (evalArgs (.builtin id) true args []) (fun a s₁ => wpC M A (call (.builtin id) (first ++ a.pos) a.kw) Q E s₁) E s) : wpC M A (callWith pos (.builtin id) first args []) Q E s := by
  unfold callWith
  refine wpC_first (wpAny_holding (wpAny_mono h (fun a s₁ h₁ => wpC_standAt ?_) fun _ _ x => x))
  simp only [hplain, List.any_nil, Bool.or_false]
  refine wpC_first (wpAny_pure ?_)
  exact wpC_bind (wpC_mono h₁ (fun r s₂ hr => wpC_of (wpAny_bind (wpAny_holding (wpAny_point (wpAny_pure hr))))) fun _ _ x => x)
theorem callWithC_T0 {T : String} (h : wpC M A (call (.type T) (first ++ [])) Q E s) : wpC M A (callWith pos (.type T) first (backTo pos (starEach [] env)) []) Q E s :=
  callWithC_type rfl (evalArgs_nil3 h)
theorem callWithC_T {T : String} {e : Expr} {rest : List Expr} (h : wpAny M A (spliced (backTo pos (starEach (e :: rest) env))) (fun vs s₁ => wpC M A (call (.type T) (first ++ vs)) Q E s₁) E s)
    (he : starEach (e :: rest) env = (false, eval e env) :: starEach rest env := by rfl) (hplain : (backTo pos (starEach rest env)).any (·.1) = false := by rfl) :
    wpC M A (callWith pos (.type T) first (backTo pos (starEach (e :: rest) env)) []) Q E s := by
  rw [he] at h ⊢
  exact callWithC_type (by show (false || (backTo pos (starEach rest env)).any (·.1)) = false; rw [hplain]; rfl) (evalArgs_plain h)
theorem callWithC_B {id : String} {e : Expr} {rest : List Expr} (h : wpAny M A (spliced (backTo pos (starEach (e :: rest) env))) (fun vs s₁ => wpC M A (call (.builtin id) (first ++ vs)) Q E s₁) E s)
    (he : starEach (e :: rest) env = (false, eval e env) :: starEach rest env := by rfl) (hplain : (backTo pos (starEach rest env)).any (·.1) = false := by rfl) :
    wpC M A (callWith pos (.builtin id) first (backTo pos (starEach (e :: rest) env)) []) Q E s := by
  rw [he] at h ⊢
  exact callWithC_builtin (by show (false || (backTo pos (starEach rest env)).any (·.1)) = false; rw [hplain]; rfl) (evalArgs_plain h)
end
section
variable {prog : Program} {w : World} {A : Around} {E : Value → Shared → Prop} {s : Shared} {env : Env} {Q : Flow → Shared → Prop} {pos : Pos}
def LoopNext (I : Nat → Shared → Prop) (n : Nat) (s : Shared) : Prop := ∃ m, m < n ∧ I m s
theorem while_C {test : Expr} {body : List Stmt} (hE : ∀ v s', E v s' → notedBy (model prog w) A env (cameBackBy (model prog w) A env E) v s') (I : Nat → Shared → Prop)
    (turn : ∀ n s, I n s → wpC (model prog w) A (isTrue test env (eval test env)) (fun b s₂ =>
      if b = true then wpC (model prog w) A (execs body env) (fun f s₃ => match f with
          | .next | .cont => LoopNext I n s₃
          | .brk => Q .next s₃
          | .ret v => Q (.ret v) s₃) E s₂
      else Q .next s₂) E s)
    (n : Nat) (h : I n s) : wpC (model prog w) A (exec (.While test body [] pos) env) Q E s := by
  refine wpC_While (codeC_whileLoop I (fun n s hI => ?_) n h)
  refine wpC_mono (turn n s hI) (fun b s₂ h₂ => ?_) hE
  cases b with
  | false =>
    simp only [Bool.false_eq_true, if_false] at h₂ ⊢
    exact wpC_execs_nil h₂
  | true =>
    simp only [if_true] at h₂ ⊢
    refine wpC_mono h₂ (fun f s₃ h₃ => ?_) hE
    cases f <;> exact h₃
theorem for_C {target iter : Expr} {body : List Stmt} (hE : ∀ v s', E v s' → notedBy (model prog w) A env (cameBackBy (model prog w) A env E) v s')
    (h : wpAny (model prog w) A (eval iter env) (fun x s₁ => wpAny (model prog w) A (pyIter x) (fun it s₂ =>
      ∃ (I : Nat → Shared → Prop) (n : Nat), I n s₂ ∧ ∀ n s, I n s → wpAny (model prog w) A (pyNext it) (fun r s₁ => match r with
        | none => Q .next s₁
        | some v => wpAny (model prog w) A (letOwnedTupleGo target it v) (fun _ s₁' =>
            wpAny (model prog w) A (assign target env v) (fun _ s₂ => wpC (model prog w) A (execs body env) (fun f s₃ => match f with
              | .next | .cont => LoopNext I n s₃
              | .brk => Q .next s₃
              | .ret v => Q (.ret v) s₃) E s₂) E s₁') E s₁) E s) E s₁) E s)
    (hs : ∀ x, foldedSetIterable iter env x = pure x := by intro _; rfl) : wpC (model prog w) A (exec (.For target iter body [] pos) env) Q E s := by
  refine wpC_For (wpAny_mono h (fun x s₁ h₁ => wpAny_mono h₁ (fun it s₂ h₂ => ?_) fun _ _ z => z) fun _ _ z => z) hs
  obtain ⟨I, n, h0, turn⟩ := h₂
  refine codeC_forLoop I (fun n s hI => ?_) n h0
  refine wpAny_mono (turn n s hI) (fun r s₁ h₁ => ?_) hE
  cases r with
  | none => exact wpC_execs_nil h₁
  | some v =>
    refine wpAny_mono h₁ (fun _ s₂ h₂ => wpAny_mono h₂ (fun _ s₃ h₃ => wpC_mono h₃ (fun f s₄ h₄ => ?_) hE) hE) hE
    cases f <;> exact h₄
end
theorem left_env {base G h : Heap} {env env' : Env} {outer : List Env} {C : Addr} {P : Obj → Prop} {v : Value} (hf : env.frame = env'.frame) (hk : env'.scope.kind = .function) (R : Left base G (env :: outer) C P v h) : Left base G (env' :: outer) C P v h := by
  obtain ⟨e, dx, od, hv, hP, ⟨B, b1, b2, b3, ⟨k1, k2, ⟨k3a, k3b, k3c⟩, k4⟩, k5⟩, hU⟩ := R
  have e1 : (env' :: outer).filterMap (·.frame) = (env :: outer).filterMap (·.frame) := by rw [List.filterMap_cons, List.filterMap_cons, hf]
  exact ⟨e, dx, od, hv, hP, ⟨B, b1, fun b o q hn => b2 b o q (e1 ▸ hn), b3, ⟨k1, k2, ⟨by rw [hk]; decide, hf ▸ k3b, k3c⟩, k4⟩, k5⟩, hU⟩
theorem excH_env {base g h : Heap} {env env' : Env} {outer : List Env} {L C : Addr} {P : Obj → Prop} {v : Value} (hf : env.frame = env'.frame) (hk : env'.scope.kind = .function) (R : ExcH base g (env :: outer) L C P v h) : ExcH base g (env' :: outer) L C P v h := by
  obtain ⟨e, dx, od, G, m, fl, hv, hP, hfl, F, hU, ⟨B, b1, b2, b3, ⟨k1, k2, ⟨k3a, k3b, k3c⟩, k4⟩, k5⟩⟩ := R
  have e1 : (env' :: outer).filterMap (·.frame) = (env :: outer).filterMap (·.frame) := by rw [List.filterMap_cons, List.filterMap_cons, hf]
  exact ⟨e, dx, od, G, m, fl, hv, hP, hfl, F, hU, ⟨B, b1, fun b o q hn => b2 b o q (e1 ▸ hn), b3, ⟨k1, k2, ⟨by rw [hk]; decide, hf ▸ k3b, k3c⟩, k4⟩, k5⟩⟩
theorem fr_map {h₀ h : Heap} {L : Addr} {m m' : Str → Option Value} (F : Fr h₀ L h m) (e : ∀ y, m y = m' y) : Fr h₀ L h m' := (funext e : m = m') ▸ F
theorem news_back {h₀ h h' : Heap} {L : Addr} {q : Addr × Obj} {news : List (Addr × Obj)} (N₃ : News h₀ L h' [q]) (N : News h₀ L h news) (kp : ∀ b o, h.get? b = some o → b ∉ ([] : List Addr) → b ≠ L → h'.get? b = some o) : News h₀ L h' (q :: news) := fun p hp => by
  rcases List.mem_cons.mp hp with rfl | hp
  · exact N₃ _ (.head _)
  · exact ⟨kp _ _ (N _ hp).1 (by simp) (N _ hp).2.1, (N _ hp).2⟩
theorem news_back0 {h₀ h h' : Heap} {L : Addr} {news : List (Addr × Obj)} (N : News h₀ L h news) (kp : ∀ b o, h.get? b = some o → b ∉ ([] : List Addr) → b ≠ L → h'.get? b = some o) : News h₀ L h' news := fun p hp =>
  ⟨kp _ _ (N _ hp).1 (by simp) (N _ hp).2.1, (N _ hp).2⟩
end Mine
end
section
open PySem PySem.W PySem.Calls PyProof.Rows
set_option maxRecDepth 100000
set_option maxHeartbeats 8000000
namespace Mine
local macro_rules | `(tactic| k_room) => `(tactic| ktr_room)
local macro_rules | `(tactic| walk_at "c_enter") => `(tactic| (k_dflt (refine' enterC [] ?kf ?k1 ?k2 ?k3 ?k4 ?k5 ?kA ?kF ?kK ?k6 ?k7 ?k8 ?k9 ?kB ?_ ?c5 ?c2 ?c3 ?c4; (case kf => exact fun _ h => nomatch h); (case kA => exact rfl); (case kF => exact rfl); (case kK => first | assumption | exact rfl); (case k1 => k_asm); (case k2 => k_asm); (case k3 => k_asm); (case k4 => k_asm); (case k5 => k_asm); (case k6 => k_is); (case k7 => k_is); (case k8 => k_room); (case k9 => exact BindsTo.of_eq rfl); (case c5 => decide); (case kB => exact locs rfl); (case c2 => exact rfl); (case c3 => exact rfl); (case c4 => exact rfl))))
local macro_rules | `(tactic| walk_at "c_walk") => `(tactic| repeat' (first | (k_unfold; (try dsimp only)) | walk1 | (dsimp only; walk1) | (leave1; try dsimp only) | fail "no step"))
local macro_rules | `(tactic| walk_at "call ref") => `(tactic| (k_here; k_dflt (refine' exc_call_K ?k1 ?k2 ?k3 ?kFB ?kC ?kB ?kA ?kN ?ki ?kf ?kl ?_; (case k1 => k_asm); (case k2 => k_asm); (case k3 => k_asm); (case kFB => exact PySem.F.excBase_Exception); (case kC => k_is); (case kB => rfl); (case kA => rfl); (case kN => rfl); (case ki => k_is); (case kf => k_is); (case kl => size_fits); k_whole; intro t' e' h' F' N' l1 l2; (try k_lt l1); (try k_lt2 l2); (try k_sweep); k_dflt k_enter)))
local macro_rules | `(tactic| walk_at "getMethod type:Exception") => `(tactic| (k_here; k_dflt (refine' method_type ?F ?X ?m (by decide +kernel) ?e ?h ?_; (case F => k_asm); (case X => k_asm); (case m => first | exact meta_Exception | (rw [typeOf_type]; kernel_rfl) | rfl); (case e => k_dflt k_is); (case h => k_handed))))
local macro_rules | `(tactic| walk_at "call builtin:Exception.__init__") => `(tactic| (k_here; k_dflt (refine' exc_init_K ?k1 ?k2 ?k3 ?kFB ?kC ?kB ?kU ?_; (case k1 => k_asm); (case k2 => k_asm); (case k3 => k_asm); (case kU => intro _; k_upd); (case kFB => exact PySem.F.excBase_Exception); (case kC => k_is); (case kB => rfl); k_whole; intro t' h' F' N' l1; (try k_lt l1); (try k_sweep))))
local macro_rules | `(tactic| walk_at "setAttr ref") => `(tactic| (k_here; k_dflt (refine' exc_set1_K ?k1 ?k2 ?k3 ?kU ?ks ?kc ?kn ?ko ?kd ?kp ?ka ?_; (case k1 => k_asm); (case k2 => k_asm); (case k3 => k_asm); (case kU => intro _; k_upd); (case ks => k_is); (case kc => k_is); (case kn => rfl); (case ko => rfl); (case kd => rfl); (case kp => walk_at "c_refuse"); (case ka => k_is); k_whole; intro d' h' F' N' l1; (try k_lt l1); (try k_sweep))))
local macro_rules | `(tactic| walk_at "setAttr ref") => `(tactic| (k_here; k_dflt (refine' exc_set2_K ?k1 ?k2 ?k3 ?km ?ks ?kc ?kn ?ko ?kd ?kp ?ka ?kl ?ke ?kU ?kz ?_; (case k1 => k_asm); (case k2 => k_asm); (case k3 => k_asm); (case km => k_mem); (case kU => k_upd); (case ks => k_is); (case kc => k_is); (case kn => rfl); (case ko => rfl); (case kd => rfl); (case kp => walk_at "c_refuse"); (case ka => k_is); (case kl => k_get); (case ke => k_put); (case kz => exact Nat.le_of_ble_eq_true rfl); k_whole; intro h' F' N'; (try k_sweep))))
local macro_rules | `(tactic| walk_at "c_refuse") => `(tactic| (intro _; rw [refuseLoop_ref, refuseLoop_ref]; exact PySem.F.store_Exception.passes _))
local macro_rules | `(tactic| walk_at "exec Raise some none") => `(tactic| (k_here; k_dflt (refine' raise_own (C := 71) ?kF ?kX ?kh ?kC ?kb ?_; (case kF => k_asm); (case kX => k_asm); (case kh => exact rfl); (case kC => k_is); (case kb => exact rfl); k_whole)))
local macro_rules | `(tactic| walk_at "c_call") => `(tactic| (k_dflt (first | (refine' callWithC_K ?k1 ?k2 ?_; (case k1 => k_asm); (case k2 => k_is); k_whole) | (refine' callWithC_K0 ?k1 ?k2 ?_; (case k1 => k_in); (case k2 => k_is); k_whole))))
local macro_rules | `(tactic| walk_at "c_walkd") => `(tactic| repeat' (first | (k_unfold; (try dsimp only)) | (walk1; (try dsimp only)) | (dsimp only; walk1; (try dsimp only)) | (leave1; try dsimp only) | fail "no step"))
def AtIs (k : Int) (od : Obj) : Prop := ∃ h1 h2 t1 t2 t3 v, od = dictOf [⟨h1, .str "what" t1, v⟩, ⟨h2, .str "at" t2, .int k t3⟩] 2
theorem fault_K {prog : Program} {w : World} {p : Program} {loose : List Str} {mean : ExcName → Option Value} {mg mb : Str → Option Value} {A₀ : Around} {base h₀ : Heap} {dp un : Nat} {gd : Option (List Code)} {outer : List Env} {L a x dx : Addr} {m : Str → Option Value} {cn : Str} {cs : Scope} {ccd : Value} {s : Shared} {Q : Value → Shared → Prop} {E : Value → Shared → Prop}
   {t1 t2 t3 t4 t6 : Tok} {hd ha : Int} {r : Array UInt8} {k : Int} {u : Str}
   (B : Below A₀ base outer h₀) (F : Fr h₀ L s.heap m) (X : (Mine.hook.heap_1 w.params).In h₀) (hxd : @LT.lt Nat _ dx x) (N : News h₀ L s.heap [(x, instObj 343 dx), (dx, dictOf [⟨hd, .str "data" t1, .bytes r t2⟩, ⟨ha, .str "at" t3, .int k t4⟩] 2)]) (T : Top p loose mean mg mb h₀)
   (hck : cs.kind = .function) (hdp : dp + 10 < recursionLimit)
   (h : ∀ e t2 dxe od h' tk', AtIs k od → e ≠ dxe → Fr h₀ L h' m → News h₀ L h' [(e, excDict 71 t2 dxe), (dxe, od)] → Q (.ref e) { s with heap := h', toks := tk' }) :
   wpAny (model prog w) (ktrTop dp un gd cn cs L a ccd [] outer) (call (.ref 180) [.ref x, .str u t6]) Q E s := by
  refine wpAny_call ?_
  k_dflt cell_enter
  walk_at "c_walk"
  rename News h₀ L _ _ => NZ
  rename Fr h₀ L _ m => FZ
  refine' h _ ?t2 ?dxe ?od _ _ ?hat ?hne FZ (news_two NZ ?m1 ?m2)
  case m1 => k_mem
  case m2 => k_mem
  case hat => exact ⟨_, _, _, _, _, _, rfl⟩
  case hne => k_ne
theorem peek_K2 {prog : Program} {w : World} {p : Program} {loose : List Str} {mean : ExcName → Option Value} {mg mb : Str → Option Value} {A₀ : Around} {base h₀ : Heap} {dp un : Nat} {gd : Option (List Code)} {outer : List Env} {L a x dx : Addr} {m : Str → Option Value} {cn : Str} {cs : Scope} {ccd : Value} {s : Shared} {Q : Value → Shared → Prop} {E : Value → Shared → Prop}
   {t1 t2 t3 t4 : Tok} {hd ha : Int} {r : Array UInt8} {k : Int} {ks : List Int} {rest : List (Addr × Obj)}
   (B : Below A₀ base outer h₀) (F : Fr h₀ L s.heap m) (X : (Mine.hook.heap_1 w.params).In h₀) (N : News h₀ L s.heap ((x, instObj 343 dx) :: (dx, dictOf [⟨hd, .str "data" t1, .bytes r t2⟩, ⟨ha, .str "at" t3, .int k t4⟩] 2) :: rest)) (T : Top p loose mean mg mb h₀)
   (hck : cs.kind = .function) (hdp : dp + 10 < recursionLimit) (hb : KBw.bInts r = ks) (hz : ks.length ≤ 1000) (hk0 : 0 ≤ k)
   (h : ∀ t' h' tk', Fr h₀ L h' m → News h₀ L h' ((x, instObj 343 dx) :: (dx, dictOf [⟨hd, .str "data" t1, .bytes r t2⟩, ⟨ha, .str "at" t3, .int k t4⟩] 2) :: rest) → Q (.int (peekAt ks k) t') { s with heap := h', toks := tk' }) :
   wpAny (model prog w) (ktrTop dp un gd cn cs L a ccd [] outer) (call (.ref 187) [.ref x]) Q E s := by
  refine wpAny_call ?_
  k_dflt cell_enter
  walk_at "c_walk"
  · rename News h₀ L _ _ => NZ
    rename Fr h₀ L _ m => FZ
    have e : peekAt ks k = ks.getD k.toNat 0 := if_pos (by (try simp only [decide_eq_true_eq, decide_eq_false_iff_not] at *); omega)
    exact e ▸ h _ _ _ FZ NZ
  · rename News h₀ L _ _ => NZ
    rename Fr h₀ L _ m => FZ
    have e : peekAt ks k = -1 := if_neg (by (try simp only [decide_eq_true_eq, decide_eq_false_iff_not] at *); omega)
    exact e ▸ h _ _ _ FZ NZ
theorem peek_K {prog : Program} {w : World} {p : Program} {loose : List Str} {mean : ExcName → Option Value} {mg mb : Str → Option Value} {A₀ : Around} {base h₀ : Heap} {dp un : Nat} {gd : Option (List Code)} {outer : List Env} {L a x dx : Addr} {m : Str → Option Value} {cn : Str} {cs : Scope} {ccd : Value} {s : Shared} {Q : Value → Shared → Prop} {E : Value → Shared → Prop}
   {t1 t2 t3 t4 : Tok} {hd ha : Int} {r : Array UInt8} {k : Int} {ks : List Int} {news : List (Addr × Obj)}
   (B : Below A₀ base outer h₀) (F : Fr h₀ L s.heap m) (X : (Mine.hook.heap_1 w.params).In h₀) (N : News h₀ L s.heap news) (T : Top p loose mean mg mb h₀)
   (hx : (x, instObj 343 dx) ∈ news) (hdx : (dx, dictOf [⟨hd, .str "data" t1, .bytes r t2⟩, ⟨ha, .str "at" t3, .int k t4⟩] 2) ∈ news)
   (hck : cs.kind = .function) (hdp : dp + 10 < recursionLimit) (hb : KBw.bInts r = ks) (hz : ks.length ≤ 1000) (hk0 : 0 ≤ k)
   (h : ∀ t' h' tk', Fr h₀ L h' m → News h₀ L h' news → Q (.int (peekAt ks k) t') { s with heap := h', toks := tk' }) :
   wpAny (model prog w) (ktrTop dp un gd cn cs L a ccd [] outer) (call (.ref 187) [.ref x]) Q E s :=
  peek_K2 B F X (rest := news) (fun p hp => by
    rcases List.mem_cons.mp hp with rfl | hp
    · exact N _ hx
    · rcases List.mem_cons.mp hp with rfl | hp
      · exact N _ hdx
      · exact N _ hp) T hck hdp hb hz hk0 fun t' h' tk' F' N' => h t' h' tk' F' (cb_drop N' fun p hp => .tail _ (.tail _ hp))
section
local macro_rules | `(tactic| walk_at "c_pk") => `(tactic| first | assumption | exact rfl | omega | (simp only [Array.size_push]; omega))
local macro_rules | `(tactic| walk_at "call ref") => `(tactic| (k_here; k_dflt (refine' fault_K ?k1 ?k2 ?k3 ?kl ?k4 ?k5 ?kc ?kd ?_; (case k1 => k_asm); (case k2 => k_asm); (case k3 => k_asm); (case k4 => (refine' news_two ?n ?m1 ?m2; (case n => k_asm); (case m1 => k_mem); (case m2 => k_mem))); (case kl => (refine ltN ?_; omega)); (case k5 => k_asm); (case kc => walk_at "c_pk"); (case kd => ktr_room); k_whole; intro e' t' d' o' h' tk' hat' hne' F' N'; (try k_sweep))))
local macro_rules | `(tactic| walk_at "call ref") => `(tactic| (k_here; k_dflt (refine' peek_K ?k1 ?k2 ?k3 ?k4 ?k5 ?kx ?kdx ?kc ?kd ?kb ?kz ?k0 ?_; (case k1 => k_asm); (case k2 => k_asm); (case k3 => k_asm); (case k4 => k_asm); (case k5 => k_asm); (case kx => k_mem); (case kdx => k_mem); (case kc => walk_at "c_pk"); (case kd => ktr_room); (case kb => assumption); (case kz => walk_at "c_pk"); (case k0 => walk_at "c_pk"); k_whole; intro t' h' tk' F' N'; (try k_sweep))))
local macro_rules | `(tactic| walk_at "getMethod ref") => `(tactic| (k_here; k_dflt (refine' baK_method ?k1 ?k2 ?_; (case k1 => k_asm); (case k2 => k_mem); k_whole)))
local macro_rules | `(tactic| walk_at "call type:bytes") => `(tactic| (k_here; k_dflt (refine' baK_bytes ?k1 ?k2 ?k3 ?_; (case k1 => k_asm); (case k2 => k_mem); (case k3 => walk_at "c_pk"); k_whole; intro t' k')))
local macro_rules | `(tactic| walk_at "compareOp In int bytes") => `(tactic| (refine in_crlf (by omega) (by omega) ?_))
theorem need_K {prog : Program} {w : World} {p : Program} {loose : List Str} {mean : ExcName → Option Value} {mg mb : Str → Option Value} {A₀ : Around} {base h₀ : Heap} {dp un : Nat} {gd : Option (List Code)} {outer : List Env} {L a x dx : Addr} {m : Str → Option Value} {cn : Str} {cs : Scope} {ccd : Value} {s : Shared} {R : Result → Shared → Prop}
   {t1 t2 t3 t4 t5 t6 : Tok} {hd ha : Int} {r : Array UInt8} {k : Int} {ks : List Int} {u : Str}
   (B : Below A₀ base outer h₀) (F : Fr h₀ L s.heap m) (X : (Mine.hook.heap_1 w.params).In h₀) (hxd : @LT.lt Nat _ dx x) (N : News h₀ L s.heap [(x, instObj 343 dx), (dx, dictOf [⟨hd, .str "data" t1, .bytes r t2⟩, ⟨ha, .str "at" t3, .int k t4⟩] 2)]) (T : Top p loose mean mg mb h₀)
   (hck : cs.kind = .function) (hdp : dp + 15 < recursionLimit) (hb : KBw.bInts r = ks) (hz : ks.length ≤ 1000) (hk0 : 0 ≤ k) (hk1 : k ≤ (ks.length : Int))
   (hok : ks[k.toNat]? = some 34 → ∀ t' h' tk', Fr h₀ L h' m → News h₀ L h' [(x, instObj 343 dx), (dx, dictOf [⟨hd, .str "data" t1, .bytes r t2⟩, ⟨ha, .str "at" t3, .int (k + 1) t'⟩] 2)] → R (.ok (.ret .none)) { s with heap := h', toks := tk' })
   (hno : ks[k.toNat]? ≠ some 34 → ∀ v G h' tk', Fr h₀ L G m → Left base G (envOf cn cs L a ccd :: outer) 71 (AtIs k) v h' → R (.error v) { s with heap := h', toks := tk' }) :
   codeC (model prog w) (ktrTop dp un gd cn cs L a ccd [] outer) (.call (.ref 201) ⟨[.ref x, .bytes #[34] t5, .str u t6], []⟩) R s := by
  walk_at "c_enter"
  intro g L' h₁ FG F' N' B' st' X' T' l1
  try dsimp only
  refine wpC_execs_cons (wpC_If (wpC_of ?_))
  walk_at "c_walk"
  · refine wpC_of (wpAny_execs_cons ?_)
    k_dflt refine' raise_own (C := 71) ?kF ?X ?hh ?hC ?hb ?_
    case kF => k_asm
    case X => k_asm
    case hh => exact rfl
    case hC => k_is
    case hb => exact rfl
    try dsimp only
    walk_at "c_walk"
    rename AtIs k _ => hat
    rename News g L' _ [(_, excDict _ _ _), _] => NZ
    rename Fr g L' _ _ => FZ
    rename (_ : Addr) ≠ _ => hne
    rename KBw.bInts (KBy.picked _ _ _) = _ => hcut
    rename (_ != _) = true => hq
    refine ⟨_, _, _, _, _, rfl, FZ, NZ, .head _, ?_⟩
    have hq' : ks[k.toNat]? ≠ some 34 := bne_iff_ne.mp ((cut_one hk0 hk1 hcut).symm.trans hq)
    exact exc_leave (P := AtIs k) (C := 71) B' rfl rfl rfl (.inl ⟨_, _, _, _, _, _, rfl, hat, FZ, NZ, .head _, .tail _ (.head _), hne⟩) fun h' R => hno hq' _ _ _ _ FG R
  · rename KBw.bInts (KBy.picked _ _ _) = _ => hcut
    rename (_ != _) = false => hq
    rename News g L' _ _ => NZ
    rename Fr g L' _ _ => FZ
    have hq' : ks[k.toNat]? = some 34 := bne_eq_false_iff_eq.mp ((cut_one hk0 hk1 hcut).symm.trans hq)
    refine wpC_execs_nil (wpC_execs_nil ?_)
    exact leaveC_ FZ NZ fun F₂ N₂ _ => hok hq' _ _ _ F₂ N₂
theorem quoted_K {prog : Program} {w : World} {p : Program} {loose : List Str} {mean : ExcName → Option Value} {mg mb : Str → Option Value} {A₀ : Around} {base h₀ : Heap} {dp un : Nat} {gd : Option (List Code)} {outer : List Env} {L a x dx : Addr} {m : Str → Option Value} {cn : Str} {cs : Scope} {ccd : Value} {s : Shared} {R : Result → Shared → Prop}
   {t1 t2 t3 t4 : Tok} {hd ha : Int} {r : Array UInt8} {k : Int} {ks : List Int}
   (B : Below A₀ base outer h₀) (F : Fr h₀ L s.heap m) (X : (Mine.hook.heap_1 w.params).In h₀) (hxd : @LT.lt Nat _ dx x) (N : News h₀ L s.heap [(x, instObj 343 dx), (dx, dictOf [⟨hd, .str "data" t1, .bytes r t2⟩, ⟨ha, .str "at" t3, .int k t4⟩] 2)]) (T : Top p loose mean mg mb h₀)
   (hck : cs.kind = .function) (hdp : dp + 30 < recursionLimit) (hb : KBw.bInts r = ks) (hz : ks.length ≤ 1000) (hk0 : 0 ≤ k) (hk1 : k ≤ (ks.length : Int))
   (hok : ∀ q e, parse ks k.toNat = .ok (q, e) → ∀ b tb t' h' tk', KBw.bInts b = q → Fr h₀ L h' m → News h₀ L h' [(x, instObj 343 dx), (dx, dictOf [⟨hd, .str "data" t1, .bytes r t2⟩, ⟨ha, .str "at" t3, .int (e : Int) t'⟩] 2)] → R (.ok (.ret (.bytes b tb))) { s with heap := h', toks := tk' })
   (hno : ∀ e, parse ks k.toNat = .error e → ∀ v G h' tk', Fr h₀ L G m → Left base G (envOf cn cs L a ccd :: outer) 71 (AtIs e) v h' → R (.error v) { s with heap := h', toks := tk' }) :
   codeC (model prog w) (ktrTop dp un gd cn cs L a ccd [] outer) (.call (.ref 278) ⟨[.ref x], []⟩) R s := by
  walk_at "c_enter"
  intro g L' h₁ FG F' N' B' st' X' T' l1
  try dsimp only
  obtain ⟨QQ, hQQ⟩ : ∃ QQ : Flow → Shared → Prop, ∀ fl s', QQ fl s' ↔ (∃ b tb e t' h' tk' mm, fl = .ret (.bytes b tb) ∧ parse ks k.toNat = .ok (KBw.bInts b, e) ∧ s' = { s with heap := h', toks := tk' } ∧ Fr g L' h' mm ∧ News g L' h' [(x, instObj 343 dx), (dx, dictOf [⟨hd, .str "data" t1, .bytes r t2⟩, ⟨ha, .str "at" t3, .int (e : Int) t'⟩] 2)]) := ⟨_, fun _ _ => Iff.rfl⟩
  obtain ⟨EQ, hEQ⟩ : ∃ EQ : Value → Shared → Prop, ∀ v s', EQ v s' ↔ (∃ (e : Nat) (h' : Heap) (tk' : Nat), parse ks k.toNat = .error e ∧ s' = { s with heap := h', toks := tk' } ∧ ∀ env, env.frame = some L' → env.scope.kind = .function → ExcS base g (env :: envX cn cs L a ccd [] :: outer) L' 71 (AtIs (e : Int)) v h') := ⟨_, fun _ _ => Iff.rfl⟩
  refine wpC_mono (Q := QQ) (E := EQ) ?body (fun fl s' hq => ?post) (fun v s' he => ?exc)
  case post =>
    obtain ⟨b, tb, e, t', h', tk', mm, rfl, hp, rfl, FZ, NZ⟩ := (hQQ _ _).mp hq
    exact leaveC_ FZ NZ fun F₂ N₂ _ => hok _ _ hp b tb t' h' tk' rfl F₂ N₂
  case exc =>
    obtain ⟨e, h', tk', hp, rfl, R'⟩ := (hEQ _ _).mp he
    exact exc_leave (P := AtIs (e : Int)) (C := 71) B' rfl rfl rfl (R' _ rfl rfl) fun h' R => hno e hp _ _ _ _ FG R
  clear hok hno
  refine wpC_execs_cons (wpC_Expr (wpC_Call_Meth ?_))
  walk_at "c_walk"
  walk_at "c_call"
  walk_at "c_walk"
  refine wpC_call ?_
  k_dflt refine' need_K ?k1 ?k2 ?k3 ?k4 ?k5 ?k6 ?k7 ?k8 ?k9 ?k10 ?k11 ?k12 ?kok ?kno
  case k1 => k_asm
  case k2 => k_asm
  case k3 => k_asm
  case k4 => exact hxd
  case k5 => k_asm
  case k6 => k_asm
  case k7 => exact rfl
  case k8 => ktr_room
  case k9 => exact hb
  case k10 => exact hz
  case k11 => exact hk0
  case k12 => exact hk1
  case kno =>
    intro h34 v G h' tk' FG' R'
    exact (hEQ _ _).mpr ⟨k.toNat, h', tk', if_neg h34, rfl, fun env he hk => by
      rw [Int.toNat_of_nonneg hk0]
      exact left_excS FG' (left_env he.symm hk R')⟩
  case kok =>
    intro h34 t' h' tk' F₂ N₂
    refine wpC_execs_cons (wpC_Assign_Name (wpC_Call_Name ?_))
    walk_at "c_walk"
    refine callWithC_T0 ?_
    rename Fr g L' _ _ => F₂
    refine baK_call0 F₂ N₂ fun D h₃ F₃ N₃ l3 => ?_
    k_lt l3
    refine wpC_of ?_
    walk_at "c_walk"
    rename Fr g L' _ _ => F₄
    rename News g L' _ _ => N₄
    have hk34 : k < (ks.length : Int) := by
      have := (List.getElem?_eq_some_iff.mp h34).1
      omega
    have F₅ := fr_map F₄ (m' := fun y => if y = "found" then some (.ref D) else if y = "self" then some (.ref x) else none) (fun y => by
      by_cases h1 : y = "found"
      · rw [if_pos h1, if_pos h1]
      · rw [if_neg h1, if_neg h1]
        by_cases h2 : y = "self"
        · subst h2; rfl
        · rw [if_neg h2]
          show (match y == (Str.ofString "self") with | true => _ | false => none) = none
          rw [beq_eq_false_iff_ne.mpr h2])
    have hN₅ : ∃ tz, News g L' _ [(D, baOf #[]), (x, instObj 343 dx), (dx, dictOf [⟨hd, .str "data" t1, .bytes r t2⟩, ⟨ha, .str "at" t3, .int (k + 1) tz⟩] 2)] := ⟨_, N₄⟩
    clear F₄ N₄
    refine wpC_execs_cons (while_C ?hE (fun n s' => ∃ (j : Int) (b : Array UInt8) (tz : Tok) (h' : Heap) (tk' : Nat), s' = { s with heap := h', toks := tk' } ∧ Fr g L' h' (fun y => if y = "found" then some (.ref D) else if y = "self" then some (.ref x) else none) ∧
      News g L' h' [(D, baOf b), (x, instObj 343 dx), (dx, dictOf [⟨hd, .str "data" t1, .bytes r t2⟩, ⟨ha, .str "at" t3, .int j tz⟩] 2)] ∧ 0 ≤ j ∧ j ≤ (ks.length : Int) ∧ b.size ≤ 1000 + j.toNat ∧
      scan (ks.drop j.toNat) j.toNat (KBw.bInts b) = parse ks k.toNat ∧ j.toNat + n = ks.length) ?turn (ks.length - (k.toNat + 1)) ?init)
    case hE =>
      intro v s' he
      obtain ⟨e, h', tk', hp, rfl, R'⟩ := (hEQ _ _).mp he
      exact exc_loop (P := AtIs (e : Int)) (C := 71) B' rfl rfl rfl (R' _ rfl rfl) fun h'' R₂ => (hEQ _ _).mpr ⟨e, h'', tk', hp, rfl, fun env he hk => .inr (excH_env he.symm hk R₂)⟩
    case init =>
      obtain ⟨tz, N₅⟩ := hN₅
      have e1 : (k + 1).toNat = k.toNat + 1 := by omega
      refine ⟨k + 1, #[], tz, _, _, rfl, F₅, N₅, by omega, by omega, by simp, ?_, by omega⟩
      rw [e1]
      show scan _ _ [] = parse ks k.toNat
      unfold parse
      rw [if_pos h34]
    case turn =>
      rintro n s' ⟨j, b, tz, h', tk', rfl, Fi, Ni, hj0, hj1, hbs, hsc, hn⟩
      clear hN₅ F₅
      refine wpC_of ?_
      walk_at "c_walk"
      · rename ¬ (peekAt ks j = 34) => hne34
        rename Fr g L' _ _ => Fi
        rename News g L' _ _ => Ni
        obtain ⟨PA, hPA⟩ : ∃ PA : Flow → Shared → Prop, ∀ f s', PA f s' ↔ (f = .next ∧ ∃ (j' : Int) (tz : Tok) (h' : Heap) (tk' : Nat), s' = { s with heap := h', toks := tk' } ∧ Fr g L' h' (fun y => if y = "found" then some (.ref D) else if y = "self" then some (.ref x) else none) ∧
          News g L' h' [(D, baOf b), (x, instObj 343 dx), (dx, dictOf [⟨hd, .str "data" t1, .bytes r t2⟩, ⟨ha, .str "at" t3, .int j' tz⟩] 2)] ∧
          (j' = j ∧ peekAt ks j ≠ 92 ∨ j' = j + 1 ∧ peekAt ks j = 92 ∧ (peekAt ks j' = 34 ∨ peekAt ks j' = 92))) := ⟨_, fun _ _ => Iff.rfl⟩
        refine wpC_execs_cons (wpC_mono (Q := PA) (E := EQ) (wpC_of ?stA) (fun f s' hA => ?rest) (fun _ _ z => z))
        case stA =>
          walk_at "c_walk"
          · rename AtIs _ _ => hat
            rename News g L' _ [(_, excDict _ _ _), _] => NZ
            rename Fr g L' _ _ => FZ
            rename (_ : Addr) ≠ _ => hne
            rename peekAt ks j = 92 => h92
            rename peekAt ks (j + 1) ≠ 34 => hn34
            rename peekAt ks (j + 1) ≠ 92 => hn92
            refine ⟨_, _, _, _, _, rfl, FZ, NZ, .head _, (hEQ _ _).mpr ⟨(j + 1).toNat, _, _, hsc ▸ scan_two_fail hj0 h92 hn34 hn92, rfl, fun env _ _ => .inl ⟨_, _, _, _, _, _, rfl, ?_, FZ, NZ, .head _, .tail _ (.head _), hne⟩⟩⟩
            rw [Int.toNat_of_nonneg (by omega)]
            exact hat
          · rename peekAt ks j = 92 => h92
            rename peekAt ks (j + 1) = 92 => h92'
            rename News g L' _ _ => NZ
            rename Fr g L' _ _ => FZ
            exact (hPA _ _).mpr ⟨rfl, _, _, _, _, rfl, FZ, NZ, .inr ⟨rfl, h92, .inr h92'⟩⟩
          · rename peekAt ks j = 92 => h92
            rename peekAt ks (j + 1) = 34 => h34'
            rename News g L' _ _ => NZ
            rename Fr g L' _ _ => FZ
            exact (hPA _ _).mpr ⟨rfl, _, _, _, _, rfl, FZ, NZ, .inr ⟨rfl, h92, .inl h34'⟩⟩
          · rename peekAt ks j ≠ 92 => hn92
            rename News g L' _ _ => NZ
            rename Fr g L' _ _ => FZ
            exact (hPA _ _).mpr ⟨rfl, _, _, _, _, rfl, FZ, NZ, .inl ⟨rfl, hn92⟩⟩
        case rest =>
          obtain ⟨rfl, j', tz, h', tk', rfl, Fi, Ni, hj'⟩ := (hPA _ _).mp hA
          have hj'0 : 0 ≤ j' := by omega
          have hin := peek_in hb j'
          clear hPA hA
          obtain ⟨PB, hPB⟩ : ∃ PB : Flow → Shared → Prop, ∀ f s', PB f s' ↔ (f = .next ∧ ∃ (tz : Tok) (h' : Heap) (tk' : Nat), s' = { s with heap := h', toks := tk' } ∧ Fr g L' h' (fun y => if y = "found" then some (.ref D) else if y = "self" then some (.ref x) else none) ∧
            News g L' h' [(D, baOf b), (x, instObj 343 dx), (dx, dictOf [⟨hd, .str "data" t1, .bytes r t2⟩, ⟨ha, .str "at" t3, .int j' tz⟩] 2)] ∧
            ¬ (peekAt ks j' < 1 ∨ peekAt ks j' > 127 ∨ peekAt ks j' = 13 ∨ peekAt ks j' = 10)) := ⟨_, fun _ _ => Iff.rfl⟩
          refine wpC_execs_cons (wpC_mono (Q := PB) (E := EQ) (wpC_of ?stB) (fun f s' hB => ?rest2) (fun _ _ z => z))
          case stB =>
            walk_at "c_walk"
            all_goals first
              | (rename AtIs _ _ => hat
                 rename News g L' _ [(_, excDict _ _ _), _] => NZ
                 rename Fr g L' _ _ => FZ
                 rename (_ : Addr) ≠ _ => hne
                 have hbad : peekAt ks j' < 1 ∨ peekAt ks j' > 127 ∨ peekAt ks j' = 13 ∨ peekAt ks j' = 10 := by (try simp only [decide_eq_true_eq] at *); omega
                 have hjj : j' = j := by omega
                 subst hjj
                 refine ⟨_, _, _, _, _, rfl, FZ, NZ, .head _, (hEQ _ _).mpr ⟨j'.toNat, _, _, hsc ▸ scan_fail hj'0 hne34 (by omega) hbad, rfl, fun env _ _ => .inl ⟨_, _, _, _, _, _, rfl, ?_, FZ, NZ, .head _, .tail _ (.head _), hne⟩⟩⟩
                 rw [Int.toNat_of_nonneg (by omega)]
                 exact hat)
              | (rename News g L' _ _ => NZ
                 rename Fr g L' _ _ => FZ
                 exact (hPB _ _).mpr ⟨rfl, _, _, _, rfl, FZ, NZ, by (try simp only [decide_eq_false_iff_not] at *); omega⟩)
          case rest2 =>
            obtain ⟨rfl, tz, h', tk', rfl, Fi, Ni, hgood⟩ := (hPB _ _).mp hB
            clear hPB hB
            refine wpC_execs_cons (wpC_Expr (wpC_Call_Meth ?_))
            walk_at "c_walk"
            refine callWithC_B ?_
            walk_at "c_walk"
            rename News g L' _ _ => NZ
            rename Fr g L' _ _ => FZ
            refine baK_append FZ NZ (by k_upd) (by omega) (by omega) (by omega) fun h₆ F₆ N₆ => ?_
            clear FZ NZ
            dsimp only
            refine wpC_of ?_
            walk_at "c_walk"
            rename News g L' _ _ => NZ
            rename Fr g L' _ _ => FZ
            have hlt := peek_lt (ks := ks) (j := j') (by omega)
            refine ⟨ks.length - (j' + 1).toNat, by omega, j' + 1, _, _, _, _, rfl, FZ, NZ, by omega, by omega, by rw [Array.size_push]; omega, ?_, by omega⟩
            rw [ints_push (by omega) (by omega), ← hsc]
            rcases hj' with ⟨rfl, hn92⟩ | ⟨rfl, h92, hd92⟩
            · exact (scan_go hj0 hne34 hn92 hgood).symm
            · exact (scan_two hj0 h92 hd92).symm
      · rename peekAt ks j = 34 => hj34
        refine wpC_of ?_
        walk_at "c_walk"
        rename News g L' _ _ => NZ
        rename Fr g L' _ _ => FZ
        have e : ((j.toNat + 1 : Nat) : Int) = j + 1 := by omega
        rw [← e] at NZ
        exact (hQQ _ _).mpr ⟨b, _, j.toNat + 1, _, _, _, _, rfl, hsc ▸ scan_done hj0 hj34, rfl, FZ, news_two NZ (.tail _ (.head _)) (.tail _ (.tail _ (.head _)))⟩
theorem heard_K {prog : Program} {w : World} {p : Program} {loose : List Str} {mean : ExcName → Option Value} {mg mb : Str → Option Value} {A₀ : Around} {base h₀ : Heap} {dp un : Nat} {gd : Option (List Code)} {cl : List (Str × Addr)} {L a : Addr} {m : Str → Option Value} {cn : Str} {cs : Scope} {ccd : Value} {s : Shared} {R : Result → Shared → Prop}
   {t1 t2 : Tok} {r : Array UInt8} {k : Int} {ks : List Int} {news : List (Addr × Obj)}
   (B : Below A₀ base [] h₀) (F : Fr h₀ L s.heap m) (X : (Mine.hook.heap_1 w.params).In h₀) (N : News h₀ L s.heap news) (T : Top p loose mean mg mb h₀) (XB : (Mine.hook.heap_1 w.params).In base) (TB : Top p loose mean mg mb base)
   (hck : cs.kind = .function) (hdp : dp + 50 < recursionLimit) (hb : KBw.bInts r = ks) (hz : ks.length ≤ 1000) (hk0 : 0 ≤ k) (hk1 : k ≤ (ks.length : Int))
   (hok : ∀ q e, parse ks k.toNat = .ok (q, e) → ∀ T' b tb te h' tk', KBw.bInts b = q → Fr h₀ L h' m → News h₀ L h' ((T', { cls := .type "tuple", data := .seq #[.bytes b tb, .int (e : Int) te] }) :: news) → R (.ok (.ret (.ref T'))) { s with heap := h', toks := tk' })
   (hno : ∀ e, parse ks k.toNat = .error e → ∀ te h' tk', Fr h₀ L h' m → News h₀ L h' news → R (.ok (.ret (.int (e : Int) te))) { s with heap := h', toks := tk' }) :
   codeC (model prog w) (ktrTop dp un gd cn cs L a ccd cl []) (.call (.ref 368) ⟨[.bytes r t1, .int k t2], []⟩) R s := by
  k_dflt refine' enterC [L] ?kf ?k1 ?k2 ?k3 ?k4 ?k5 ?kA ?kF ?kK ?k6 ?k7 ?k8 ?k9 ?kB ?_ ?c5 ?c2 ?c3 ?c4
  case kf => exact fun _ h => List.mem_singleton.mp h
  case kA => exact rfl
  case kF => exact rfl
  case kK => exact hck
  case k1 => exact B
  case k2 => exact F
  case k3 => exact News.nil
  case k4 => exact X
  case k5 => exact T
  case k6 => k_is
  case k7 => k_is
  case k8 => k_room
  case k9 => exact BindsTo.of_eq rfl
  case c5 => decide
  case kB => exact locs rfl
  case c2 => exact rfl
  case c3 => exact rfl
  case c4 => exact rfl
  intro g L' h₁ FG F' N' B' st' X' T' l1
  try dsimp only
  refine wpC_execs_cons (wpC_of ?_)
  walk_at "c_walk"
  refine wpC_execs_cons (wpC_Try ?_)
  refine wpC_execs_cons (wpC_Assign_Name (wpC_Call_Meth ?_))
  walk_at "c_walk"
  walk_at "c_call"
  refine wpC_call ?_
  k_dflt refine' quoted_K ?k1 ?k2 ?k3 ?k4 ?k5 ?k6 ?k7 ?k8 ?k9 ?k10 ?k11 ?k12 ?kok ?kno
  case k1 => k_asm
  case k2 => k_asm
  case k3 => k_asm
  case k5 => k_asm
  case k4 => (refine ltN ?_; omega)
  case k6 => k_asm
  case k7 => exact rfl
  case k8 => ktr_room
  case k9 => exact hb
  case k10 => exact hz
  case k11 => exact hk0
  case k12 => exact hk1
  case kok =>
    intro q e hp b tb t' h' tk' hq F₂ N₂
    refine wpC_of ?_
    walk_at "c_walk"
    refine wpC_execs_nil ?_
    refine wpC_execs_nil ?_
    refine wpC_of ?_
    walk_at "c_walk"
    rename News g L' _ _ => NZ
    rename Fr g L' _ _ => FZ
    refine leaveC_ FZ (news_one NZ (.head _)) fun F₃ N₃ kp => ?_
    exact hok q e hp _ b tb _ _ _ hq F₃ (news_back N₃ N kp)
  case kno =>
    intro e hp v G h' tk' FG' R'
    k_dflt refine' caughtD (KF := Mine.hook.heap_1 w.params) (P := AtIs (e : Int)) (C := 71) B' FG' R' XB TB ?hc ?hex ?kk
    case hc => exact .inl (by k_is)
    case hex => kts_exm
    case kk =>
      intro h₂ g₂ m₂ e₂ dx oe od tk₂ hv hat hoc hod hnc T₂ F₂ N₂ B₂ X₂ TT₂
      cases hv
      obtain ⟨x1, x2, y1, y2, y3, v0, rfl⟩ := hat
      have I : InstAt h₂ e₂ oe 71 (some (dictOf [⟨x1, .str "what" y1, v0⟩, ⟨x2, .str "at" y2, .int (e : Int) y3⟩] 2)) := ⟨(N₂ _ (.head _)).1, hoc, hnc, by
        rw [hod]
        exact (N₂ _ (.tail _ (.head _))).1⟩
      walk_at "c_walk"
      k_dflt refine' exc_get (C := 71) (v := .int (e : Int) y3) (X₂.keeps F₂.keep) I ?g1 ?g2 ?g3 ?g4 ?g5 ?g6 ?g7 ?_
      case g1 => k_is
      case g2 => k_is
      case g3 => k_is
      case g4 => rfl
      case g5 => rfl
      case g6 => exact findObj_own (attr := none) (by k_is) (by k_is) (by rfl) (by rfl)
      case g7 => rfl
      refine name_goes_keeps F₂ N₂ fun h₃ u F₃ N₃ => ?_
      refine ⟨g₂, L', _, [], T₂, F₃, News.nil, fun F₄ N₄ kp => ?_⟩
      exact hno e hp _ _ _ F₄ (news_back0 N kp)
def esc (c : Int) : List Int := if c = 34 ∨ c = 92 then [92, c] else [c]
def quoteL (q : List Int) : List Int := 34 :: (q.flatMap esc ++ [34])
theorem flat_next {ks : List Int} {i : Nat} {c : Int} (h : ks[i]? = some c) : (ks.take (i + 1)).flatMap esc = (ks.take i).flatMap esc ++ esc c := by
  obtain ⟨hi, rfl⟩ := List.getElem?_eq_some_iff.mp h
  rw [List.take_succ_eq_append_getElem hi, List.flatMap_append]
  simp
theorem flat_size (l : List Int) : (l.flatMap esc).length ≤ 2 * l.length := by
  induction l with
  | nil => simp
  | cons c t ih =>
    rw [List.flatMap_cons, List.length_append, List.length_cons]
    have : (esc c).length ≤ 2 := by
      unfold esc
      split <;> simp
    omega
theorem qo_K {prog : Program} {w : World} {p : Program} {loose : List Str} {mean : ExcName → Option Value} {mg mb : Str → Option Value} {A₀ : Around} {base h₀ : Heap} {dp un : Nat} {gd : Option (List Code)} {cl : List (Str × Addr)} {outer : List Env} {L a : Addr} {m : Str → Option Value} {cn : Str} {cs : Scope} {ccd : Value} {s : Shared} {R : Result → Shared → Prop}
   {t1 : Tok} {r : Array UInt8} {ks : List Int} {news : List (Addr × Obj)}
   (B : Below A₀ base outer h₀) (F : Fr h₀ L s.heap m) (X : (Mine.hook.heap_1 w.params).In h₀) (N : News h₀ L s.heap news) (T : Top p loose mean mg mb h₀)
   (hck : cs.kind = .function) (hdp : dp + 50 < recursionLimit) (hb : KBw.bInts r = ks) (hz : ks.length ≤ 1000)
   (hok : ∀ b tb h' tk', KBw.bInts b = quoteL ks → Fr h₀ L h' m → News h₀ L h' news → R (.ok (.ret (.bytes b tb))) { s with heap := h', toks := tk' }) :
   codeC (model prog w) (ktrTop dp un gd cn cs L a ccd cl outer) (.call (.ref 354) ⟨[.bytes r t1], []⟩) R s := by
  k_dflt refine' enterC [] ?kf ?k1 ?k2 ?k3 ?k4 ?k5 ?kA ?kF ?kK ?k6 ?k7 ?k8 ?k9 ?kB ?_ ?c5 ?c2 ?c3 ?c4
  case kf => exact fun _ h => nomatch h
  case kA => exact rfl
  case kF => exact rfl
  case kK => exact hck
  case k1 => exact B
  case k2 => exact F
  case k3 => exact News.nil
  case k4 => exact X
  case k5 => exact T
  case k6 => k_is
  case k7 => k_is
  case k8 => k_room
  case k9 => exact BindsTo.of_eq rfl
  case c5 => decide
  case kB => exact locs rfl
  case c2 => exact rfl
  case c3 => exact rfl
  case c4 => exact rfl
  intro g L' h₁ FG F' N' B' st' X' T' l1
  try dsimp only
  obtain ⟨QQ, hQQ⟩ : ∃ QQ : Flow → Shared → Prop, ∀ fl s', QQ fl s' ↔ (∃ b tb h' tk' mm, fl = .ret (.bytes b tb) ∧ KBw.bInts b = quoteL ks ∧ s' = { s with heap := h', toks := tk' } ∧ Fr g L' h' mm) := ⟨_, fun _ _ => Iff.rfl⟩
  refine wpC_mono (Q := QQ) (E := fun _ _ => False) ?body (fun fl s' hq => ?post) (fun v s' he => he.elim)
  case post =>
    obtain ⟨b, tb, h', tk', mm, rfl, hp, rfl, FZ⟩ := (hQQ _ _).mp hq
    exact leaveC_ FZ News.nil fun F₂ N₂ kp => hok b tb h' tk' hp F₂ (news_back0 N kp)
  refine wpC_execs_cons (wpC_Assign_Name (wpC_Call_Name ?_))
  walk_at "c_walk"
  refine callWithC_T ?_
  walk_at "c_walk"
  rename Fr g L' _ _ => F₂
  refine baK_call1 (by decide) F₂ (News.nil) fun D h₃ F₃ N₃ l3 => ?_
  refine wpC_of ?_
  walk_at "c_walk"
  rename Fr g L' _ _ => F₄
  rename News g L' _ _ => N₄
  have F₅ := fr_map F₄ (m' := fun y => if y = "code" then none else if y = "found" then some (.ref D) else if y = "octets" then some (.bytes r t1) else none) (fun y => by
    by_cases h1 : y = "found"
    · subst h1; rfl
    · rw [if_neg h1, if_neg h1]
      by_cases h2 : y = "octets"
      · subst h2; rfl
      · rw [if_neg h2]
        show (match y == (Str.ofString "octets") with | true => _ | false => none) = _
        rw [beq_eq_false_iff_ne.mpr h2]
        simp)
  clear F₄
  refine wpC_execs_cons (for_C (fun _ _ h => h.elim) ?_)
  walk_at "eval Name"
  refine KBw.pyIter_bytes ?_
  have hDI := Heap.lt_size (N₄ _ (.head _)).1
  dsimp only at hDI
  have F₆ := F₅.push { cls := .type "bytes_iterator", data := .fields #[.bytes r t1, .int 0 0] }
  have N₆ := News.push F₅ N₄ { cls := .type "bytes_iterator", data := .fields #[.bytes r t1, .int 0 0] }
  dsimp only
  revert hDI F₆ N₆
  generalize hI : Array.size _ = I
  intro hDI F₆ N₆
  replace hDI := ltN hDI
  clear F₅ N₄ hI
  have hrs : r.size = ks.length := by rw [← hb, KBw.ints_length]
  refine ⟨fun n s' => ∃ (i : Nat) (b : Array UInt8) (o : Obj) (h' : Heap) (tk' : Nat) (u : Option Value), s' = { s with heap := h', toks := tk' } ∧
    Fr g L' h' (fun y => if y = "code" then u else if y = "found" then some (.ref D) else if y = "octets" then some (.bytes r t1) else none) ∧
    News g L' h' [(I, o), (D, baOf b)] ∧ o.cls = .type "bytes_iterator" ∧ o.data = .fields #[.bytes r t1, .int (i : Nat) 0] ∧ KBw.bInts b = 34 :: (ks.take i).flatMap esc ∧ i ≤ ks.length ∧ n + i = ks.length,
    ks.length, ⟨0, #[34], _, _, _, _, rfl, F₆, N₆, rfl, rfl, by simp [KBw.bInts], Nat.zero_le _, by omega⟩, ?_⟩
  clear F₆ N₆
  rintro n s' ⟨i, b, o, h', tk', u, rfl, Fi, Ni, hoc, hod, hbb, hi, hn⟩
  have hit : KBw.IsBytesIter h' I r t1 i := ⟨o, (Ni _ (.head _)).1, hoc, hod⟩
  have hsz : b.size ≤ 1 + 2 * i := by
    rw [← KBw.ints_length, hbb, List.length_cons]
    have h1 := flat_size (ks.take i)
    rw [List.length_take, Nat.min_eq_left hi] at h1
    omega
  by_cases hlt : i < r.size
  · refine KBw.next_item (s := { s with heap := h', toks := tk' }) hit (c := r[i]) (by simp [hlt]) fun h₂ hit₂ hs₂ => ?_
    obtain ⟨o₂, ho₂, hc₂, hd₂⟩ := hit₂
    have F₂ := Fi.change hs₂ (Ni _ (.head _)).2.1 (Ni _ (.head _)).2.2
    have N₂ := news_set (pre := []) (post := [(D, baOf b)]) Ni (fun p hp => nomatch hp) (fun p hp => by
      rw [List.mem_singleton.mp hp]
      exact Nat.ne_of_lt hDI) hs₂ ho₂
    have hget : ks[i]? = some ((r[i].toNat : Nat) : Int) := hb ▸ KBw.ints_get (by simp [hlt])
    have hc0 := KBw.ints_in (hb.symm ▸ List.mem_of_getElem? hget)
    clear Fi Ni hit hs₂ ho₂
    revert hget hc0
    generalize ((r[i].toNat : Nat) : Int) = c
    intro hget hc0
    dsimp only [List.nil_append] at N₂ ⊢
    refine wpAny_of_eq (a := ()) rfl ?_
    walk_at "c_walk"
    rename Fr g L' _ _ => F₃
    rename News g L' _ _ => N₃
    have F₄ := fr_map F₃ (m' := fun y => if y = "code" then some (.int c tk') else if y = "found" then some (.ref D) else if y = "octets" then some (.bytes r t1) else none) (fun y => by
      by_cases h1 : y = "code"
      · rw [if_pos h1, if_pos h1]
      · rw [if_neg h1, if_neg h1, if_neg h1])
    clear F₃
    obtain ⟨PA, hPA⟩ : ∃ PA : Flow → Shared → Prop, ∀ f s', PA f s' ↔ (f = .next ∧ ∃ (b' : Array UInt8) (h' : Heap) (tk₂ : Nat), s' = { s with heap := h', toks := tk₂ } ∧ Fr g L' h' (fun y => if y = "code" then some (.int c tk') else if y = "found" then some (.ref D) else if y = "octets" then some (.bytes r t1) else none) ∧
      News g L' h' [(I, o₂), (D, baOf b')] ∧ KBw.bInts b' ++ [c] = KBw.bInts b ++ esc c ∧ b'.size ≤ b.size + 1) := ⟨_, fun _ _ => Iff.rfl⟩
    refine wpC_execs_cons (wpC_mono (Q := PA) (E := fun _ _ => False) ?stA (fun f s' hA => ?rest) (fun _ _ z => z))
    case stA =>
      refine wpC_If (wpC_of ?_)
      walk_at "c_walk"
      all_goals first
        | (refine wpC_execs_nil ((hPA _ _).mpr ⟨rfl, b, _, _, rfl, ?_, ?_, ?_, Nat.le_succ _⟩)
           · assumption
           · assumption
           · unfold esc
             rw [if_neg (by (try simp only [decide_eq_false_iff_not] at *); omega)])
        | (refine wpC_execs_cons (wpC_Expr (wpC_Call_Meth ?_))
           walk_at "c_walk"
           refine callWithC_B ?_
           walk_at "c_walk"
           rename News g L' _ _ => NZ
           rename Fr g L' _ _ => FZ
           refine baK_append FZ NZ (by k_upd) (by omega) (by omega) (by omega) fun h₆ F₆ N₆ => ?_
           refine wpC_execs_nil ((hPA _ _).mpr ⟨rfl, _, _, _, rfl, F₆, N₆, ?_, Nat.le_of_eq (by rw [Array.size_push])⟩)
           rw [ints_push (c := 92) (by omega) (by omega)]
           unfold esc
           rw [if_pos (by (try simp only [decide_eq_true_eq] at *); omega)]
           simp)
    case rest =>
      obtain ⟨rfl, b', h₆, tk₂, rfl, F₆, N₆, hb', hbz⟩ := (hPA _ _).mp hA
      clear hPA hA
      refine wpC_execs_cons (wpC_Expr (wpC_Call_Meth ?_))
      walk_at "c_walk"
      refine callWithC_B ?_
      walk_at "c_walk"
      rename News g L' _ _ => NZ
      rename Fr g L' _ _ => FZ
      refine baK_append FZ NZ (by k_upd) (by omega) (by omega) (by omega) fun h₇ F₇ N₇ => ?_
      refine wpC_execs_nil ⟨ks.length - (i + 1), by omega, i + 1, _, _, _, _, _, rfl, F₇, N₇, hc₂, hd₂, ?_, by omega, by omega⟩
      rw [ints_push (c := c) (by omega) (by omega), hb', hbb, flat_next hget]
      simp
  · refine KBw.next_end (s := { s with heap := h', toks := tk' }) rfl hit (by simp; omega) fun h₂ he₂ => ?_
    have F₂ : Fr g L' h₂ (fun y => if y = "code" then u else if y = "found" then some (.ref D) else if y = "octets" then some (.bytes r t1) else none) :=
      ⟨Fi.ns.extBut he₂ (Ne.symm (Ni _ (.head _)).2.1), fun b o e => he₂ b o (fun q => by rw [q, (Ni _ (.head _)).2.2] at e; cases e) (Fi.keep b o e), Fi.above⟩
    have N₂ : News g L' h₂ [(D, baOf b)] := fun p hp => by
      rw [List.mem_singleton.mp hp]
      have z := Ni (D, baOf b) (.tail _ (.head _))
      exact ⟨he₂ _ _ (Nat.ne_of_lt hDI) z.1, z.2⟩
    clear Fi Ni hit he₂
    dsimp only
    refine wpC_execs_cons (wpC_Expr (wpC_Call_Meth ?_))
    walk_at "c_walk"
    refine callWithC_B ?_
    walk_at "c_walk"
    rename News g L' _ _ => NZ
    rename Fr g L' _ _ => FZ
    refine baK_append FZ NZ (by k_upd) (by omega) (by omega) (by omega) fun h₆ F₆ N₆ => ?_
    dsimp only
    refine wpC_of ?_
    walk_at "c_walk"
    refine (hQQ _ _).mpr ⟨_, _, _, _, _, rfl, ?_, rfl, by assumption⟩
    have e : i = ks.length := by omega
    rw [ints_push (c := 34) (by omega) (by omega), hbb, e, List.take_length]
    rfl
end
theorem intsAre_push {c : Int} {t : Tok} : ∀ {vs : List Value} {acc : List Int}, IntsAre vs acc → IntsAre (vs ++ [.int c t]) (acc ++ [c])
  | _, _, .nil => .cons _ _ .nil
  | _, _, .cons n t' r => .cons n t' (intsAre_push r)
theorem in_push {acc : List Int} {c : Int} (h : KBa.In acc) (h0 : 0 ≤ c) (h1 : c < 256) : KBa.In (acc ++ [c]) := fun n hn => by
  rcases List.mem_append.mp hn with hn | hn
  · exact h n hn
  · rw [List.mem_singleton.mp hn]
    exact ⟨h0, h1⟩
theorem peek_of_lt {ks : List Int} {j : Int} (h : j < (ks.length : Int)) : peekAt ks j = ks.getD j.toNat 0 := if_pos h
theorem peek_of_ge {ks : List Int} {j : Int} (h : ¬ j < (ks.length : Int)) : peekAt ks j = -1 := if_neg h
theorem fr_due {g h : Heap} {L : Addr} {m rest : Str → Option Value} {a b : Value} (F : Fr g L h m) (h1 : m "spot" = some a) (h2 : m "code" = some b) (h3 : ∀ y : Str, y ≠ ("spot" : Str) → y ≠ ("code" : Str) → m y = rest y) :
    Fr g L h (fun y => if y = ("spot" : Str) then some a else if y = ("code" : Str) then some b else rest y) := fr_map F fun y => by
  by_cases q1 : y = ("spot" : Str)
  · rw [if_pos q1, q1]; exact h1
  · rw [if_neg q1]
    by_cases q2 : y = ("code" : Str)
    · rw [if_pos q2, q2]; exact h2
    · rw [if_neg q2]; exact h3 y q1 q2
theorem due_K {prog : Program} {w : World} {p : Program} {loose : List Str} {mean : ExcName → Option Value} {mg mb : Str → Option Value} {A₀ : Around} {base h₀ : Heap} {dp un : Nat} {gd : Option (List Code)} {cl : List (Str × Addr)} {outer : List Env} {L a : Addr} {m : Str → Option Value} {cn : Str} {cs : Scope} {ccd : Value} {s : Shared} {R : Result → Shared → Prop}
   {t1 t2 : Tok} {r : Array UInt8} {k : Int} {ks : List Int} {news : List (Addr × Obj)}
   (B : Below A₀ base outer h₀) (F : Fr h₀ L s.heap m) (X : (Mine.hook.heap_1 w.params).In h₀) (N : News h₀ L s.heap news) (T : Top p loose mean mg mb h₀)
   (hck : cs.kind = .function) (hdp : dp + 50 < recursionLimit) (hb : KBw.bInts r = ks) (hz : ks.length ≤ 1000) (hk0 : 0 ≤ k) (hk1 : k ≤ (ks.length : Int))
   (hok : ∀ q e, parse ks k.toNat = .ok (q, e) → ∀ T' b tb te h' tk', KBw.bInts b = q → Fr h₀ L h' m → News h₀ L h' ((T', { cls := .type "tuple", data := .seq #[.bytes b tb, .int (e : Int) te] }) :: news) → R (.ok (.ret (.ref T'))) { s with heap := h', toks := tk' })
   (hno : ∀ e, parse ks k.toNat = .error e → ∀ te h' tk', Fr h₀ L h' m → News h₀ L h' news → R (.ok (.ret (.int (e : Int) te))) { s with heap := h', toks := tk' }) :
   codeC (model prog w) (ktrTop dp un gd cn cs L a ccd cl outer) (.call (.ref 361) ⟨[.bytes r t1, .int k t2], []⟩) R s := by
  k_dflt refine' enterC [] ?kf ?k1 ?k2 ?k3 ?k4 ?k5 ?kA ?kF ?kK ?k6 ?k7 ?k8 ?k9 ?kB ?_ ?c5 ?c2 ?c3 ?c4
  case kf => exact fun _ h => nomatch h
  case kA => exact rfl
  case kF => exact rfl
  case kK => exact hck
  case k1 => exact B
  case k2 => exact F
  case k3 => exact News.nil
  case k4 => exact X
  case k5 => exact T
  case k6 => k_is
  case k7 => k_is
  case k8 => k_room
  case k9 => exact BindsTo.of_eq rfl
  case c5 => decide
  case kB => exact locs rfl
  case c2 => exact rfl
  case c3 => exact rfl
  case c4 => exact rfl
  intro g L' h₁ FG F' N' B' st' X' T' l1
  try dsimp only
  obtain ⟨QQ, hQQ⟩ : ∃ QQ : Flow → Shared → Prop, ∀ fl s', QQ fl s' ↔ (∃ h' tk' mm, s' = { s with heap := h', toks := tk' } ∧ Fr g L' h' mm ∧
      ((∃ q e T' b tb te, parse ks k.toNat = .ok (q, e) ∧ KBw.bInts b = q ∧ fl = .ret (.ref T') ∧ News g L' h' [(T', { cls := .type "tuple", data := .seq #[.bytes b tb, .int (e : Int) te] })]) ∨
       (∃ e te, parse ks k.toNat = .error e ∧ fl = .ret (.int (e : Int) te)))) := ⟨_, fun _ _ => Iff.rfl⟩
  refine wpC_mono (Q := QQ) (E := fun _ _ => False) ?body (fun fl s' hq => ?post) (fun v s' he => he.elim)
  case post =>
    obtain ⟨h', tk', mm, rfl, FZ, ⟨q, e, T', b, tb, te, hp, hbq, rfl, NZ⟩ | ⟨e, te, hp, rfl⟩⟩ := (hQQ _ _).mp hq
    · exact leaveC_ FZ NZ fun F₂ N₂ kp => hok q e hp T' b tb te h' tk' hbq F₂ (news_back N₂ N kp)
    · exact leaveC_ FZ News.nil fun F₂ N₂ kp => hno e hp te h' tk' F₂ (news_back0 N kp)
  refine wpC_execs_cons (wpC_of ?_)
  walk_at "c_walk"
  · rename KBw.bInts (KBy.picked _ _ _) = _ => hcut
    rename (_ != _) = true => hq
    rename Fr g L' _ _ => FZ
    have hq' : ks[k.toNat]? ≠ some 34 := bne_iff_ne.mp ((cut_one hk0 hk1 hcut).symm.trans hq)
    have e : ((k.toNat : Nat) : Int) = k := by omega
    exact (hQQ _ _).mpr ⟨_, _, _, rfl, FZ, .inr ⟨k.toNat, t2, if_neg hq', by rw [e]⟩⟩
  · rename KBw.bInts (KBy.picked _ _ _) = _ => hcut
    rename (_ != _) = false => hq
    have hq' : ks[k.toNat]? = some 34 := bne_eq_false_iff_eq.mp ((cut_one hk0 hk1 hcut).symm.trans hq)
    clear hcut hq
    refine wpC_execs_cons (wpC_of ?_)
    walk_at "c_walk"
    rename News g L' _ [_, (_, W.listOf _ _)] => N₄
    rename Fr g L' _ _ => F₄
    have hk34 : k < (ks.length : Int) := by
      have := (List.getElem?_eq_some_iff.mp hq').1
      omega
    obtain ⟨D, N₅, F₅⟩ : ∃ D, News g L' _ [(D, W.listOf (([] : List Value).toArray) 0)] ∧ Fr g L' _ (fun y => if y = "spot" then some (.int (k + 1) _) else if y = "code" then none else if y = "found" then some (.ref D) else if y = "octets" then some (.bytes r t1) else if y = "at" then some (.int k t2) else none) := by
      refine ⟨_, news_one N₄ (.tail _ (.head _)), fr_map F₄ fun y => ?_⟩
      by_cases h1 : y = "found"
      · subst h1; rfl
      · rw [if_neg h1, if_neg h1]
        by_cases h2 : y = "spot"
        · subst h2; rfl
        · rw [if_neg h2, if_neg h2]
          by_cases h3 : y = "octets"
          · subst h3; rfl
          · by_cases h4 : y = "at"
            · subst h4; rfl
            · have e1 : (y == (Str.ofString "octets")) = false := beq_eq_false_iff_ne.mpr h3
              have e2 : (y == (Str.ofString "at")) = false := beq_eq_false_iff_ne.mpr h4
              show (match y == (Str.ofString "at") with | true => _ | false => (match y == (Str.ofString "octets") with | true => _ | false => none)) = _
              rw [e1, e2]
              simp [h3, h4]
    clear F₄ N₄
    refine wpC_execs_cons (while_C (fun _ _ h => h.elim) (fun n s' => ∃ (j : Int) (tj : Tok) (u : Option Value) (vs : List Value) (acc : List Int) (nn : Nat) (h' : Heap) (tk' : Nat), s' = { s with heap := h', toks := tk' } ∧
      Fr g L' h' (fun y => if y = "spot" then some (.int j tj) else if y = "code" then u else if y = "found" then some (.ref D) else if y = "octets" then some (.bytes r t1) else if y = "at" then some (.int k t2) else none) ∧
      News g L' h' [(D, W.listOf vs.toArray nn)] ∧ IntsAre vs acc ∧ KBa.In acc ∧ acc.length ≤ 1000 + j.toNat ∧ 0 ≤ j ∧ j ≤ (ks.length : Int) ∧
      scan (ks.drop j.toNat) j.toNat acc = parse ks k.toNat ∧ j.toNat + n = ks.length) ?turn (ks.length - (k.toNat + 1)) ?init)
    case init =>
      have e1 : (k + 1).toNat = k.toNat + 1 := by omega
      refine ⟨k + 1, _, none, [], [], 0, _, _, rfl, F₅, N₅, .nil, fun n h => (nomatch h), by simp, by omega, by omega, ?_, by omega⟩
      rw [e1]
      unfold parse
      rw [if_pos hq']
    case turn =>
      clear N₅ F₅
      rintro n s' ⟨j, tj, u, vs, acc, nn, h', tk', rfl, Fi, Ni, hia, hin, hlen, hj0, hj1, hsc, hn⟩
      refine wpC_of ?_
      walk_at "c_walk"
      · refine wpC_of ?_
        walk_at "c_walk"
        · rename ks.getD j.toNat 0 = 34 => h34
          rename News g L' _ _ => NZ
          rename Fr g L' _ _ => FZ
          rename j < _ => hjl
          have e : ((j.toNat + 1 : Nat) : Int) = j + 1 := by omega
          rw [← e] at NZ
          exact (hQQ _ _).mpr ⟨_, _, _, rfl, FZ, .inl ⟨acc, j.toNat + 1, _, _, _, _, hsc ▸ scan_done hj0 ((peek_of_lt hjl).trans h34), KBa.ints_make hin, rfl, news_one NZ (.head _)⟩⟩
        · rename ks.getD j.toNat 0 = 92 => h92
          rename Fr g L' _ _ => FZ
          rename j < _ => hjl
          rename _ ≤ j + 1 => hge
          have e : (((j + 1).toNat : Nat) : Int) = j + 1 := by omega
          have hm := peek_of_ge (ks := ks) (j := j + 1) (by omega)
          exact (hQQ _ _).mpr ⟨_, _, _, rfl, FZ, .inr ⟨(j + 1).toNat, _, hsc ▸ scan_two_fail hj0 ((peek_of_lt hjl).trans h92) (by omega) (by omega), by rw [e]⟩⟩
        · rename ks.getD j.toNat 0 = 92 => h92
          rename News g L' _ _ => NZ
          rename Fr g L' _ _ => FZ
          rename j < _ => hjl
          rename (List.any _ _) = true => hany
          have hj1' : j + 1 < (ks.length : Int) := by omega
          have hp := peek_of_lt hj1'
          have hor : peekAt ks (j + 1) = 34 ∨ peekAt ks (j + 1) = 92 := by
            rw [hp]
            simp only [List.any_cons, List.any_nil, Bool.or_false, Bool.or_eq_true, beq_iff_eq] at hany
            omega
          rw [List.push_toArray] at NZ
          refine ⟨ks.length - (j + 1 + 1).toNat, by omega, j + 1 + 1, _, _, _, _, _, _, _, rfl, fr_due FZ rfl rfl (fun y h1 h2 => ?_), news_one NZ (.tail _ (.head _)), intsAre_push hia, in_push hin (by omega) (by omega), by rw [List.length_append]; simp only [List.length_cons, List.length_nil]; omega, by omega, by omega, ?_, by omega⟩
          · simp only [if_neg h1, if_neg h2]
          · rw [← hsc, scan_two hj0 ((peek_of_lt hjl).trans h92) hor, hp]
        · rename ks.getD j.toNat 0 = 92 => h92
          rename Fr g L' _ _ => FZ
          rename j < _ => hjl
          rename (List.any _ _) = false => hany
          have hj1' : j + 1 < (ks.length : Int) := by omega
          have hp := peek_of_lt hj1'
          have e : (((j + 1).toNat : Nat) : Int) = j + 1 := by omega
          simp only [List.any_cons, List.any_nil, Bool.or_false, Bool.or_eq_false_iff, beq_eq_false_iff_ne, ne_eq] at hany
          exact (hQQ _ _).mpr ⟨_, _, _, rfl, FZ, .inr ⟨(j + 1).toNat, _, hsc ▸ scan_two_fail hj0 ((peek_of_lt hjl).trans h92) (by rw [hp]; exact fun q => hany.1 q.symm) (by rw [hp]; exact fun q => hany.2 q.symm), by rw [e]⟩⟩
        iterate 4
          · rename Fr g L' _ _ => FZ
            rename j < _ => hjl
            have hp := peek_of_lt hjl
            have e : ((j.toNat : Nat) : Int) = j := by omega
            exact (hQQ _ _).mpr ⟨_, _, _, rfl, FZ, .inr ⟨j.toNat, _, hsc ▸ scan_fail hj0 (by omega) (by omega) (by omega), by rw [e]⟩⟩
        · rename News g L' _ _ => NZ
          rename Fr g L' _ _ => FZ
          rename j < _ => hjl
          have hp := peek_of_lt hjl
          rw [List.push_toArray] at NZ
          refine ⟨ks.length - (j + 1).toNat, by omega, j + 1, _, _, _, _, _, _, _, rfl, fr_due FZ rfl rfl (fun y h1 h2 => ?_), news_one NZ (.head _), intsAre_push hia, in_push hin (by omega) (by omega), by rw [List.length_append]; simp only [List.length_cons, List.length_nil]; omega, by omega, by omega, ?_, by omega⟩
          · simp only [if_neg h1, if_neg h2]
          · rw [← hsc, scan_go hj0 (by omega) (by omega) (by omega), hp]
      · refine wpC_of ?_
        walk_at "c_walk"
        rename Fr g L' _ _ => FZ
        have e : ((j.toNat : Nat) : Int) = j := by omega
        exact (hQQ _ _).mpr ⟨_, _, _, rfl, FZ, .inr ⟨j.toNat, _, hsc ▸ scan_end (by omega), by rw [e]⟩⟩
theorem fr_twice {g h : Heap} {L : Addr} {x : Str} {a b : Option Value} {rest : Str → Option Value} (F : Fr g L h (fun y => if y = x then a else if y = x then b else rest y)) : Fr g L h (fun y => if y = x then a else rest y) := fr_map F fun y => by
  by_cases h1 : y = x
  · rw [if_pos h1, if_pos h1]
  · rw [if_neg h1, if_neg h1, if_neg h1]
theorem my_item {prog : Program} {w : World} {A : Around} {E : Value → Shared → Prop} {s : Shared} {value slice : PySem.Expr} {h₀ : Heap} {L l : Addr} {news : List (Addr × Obj)} {vs : List Value} {ns : List Int} {k : Int} {u : Tok} {n : Nat} {Q : Value → Shared → Prop}
    (N : News h₀ L s.heap news) (hm : (l, W.listOf vs.toArray n) ∈ news) (hi : IntsAre vs ns) (h0 : 0 ≤ k) (h1 : k < (ns.length : Int)) (hz : ns.length ≤ 1000) (h : ∀ t, Q (.int (ns.getD k.toNat 0) t) s)
    (hs : subscripted slice false (.ref l) (.int k u) = operate [.ref l, .int k u] (getItem (.ref l) (.int k u)) := by with_unfolding_all rfl) :
    wpAny (model prog w) A (subscriptTail value slice (.ref l) (.int k u)) Q E s := by
  have hl : s.heap.IsList l vs.toArray := ⟨_, (N _ hm).1, rfl, _, rfl⟩
  obtain ⟨t, ht⟩ : ∃ t, vs[k.toNat]? = some (.int (ns.getD k.toNat 0) t) := by
    have key : ∀ {vs : List Value} {ns : List Int} (j : Nat), IntsAre vs ns → j < ns.length → ∃ t, vs[j]? = some (.int (ns.getD j 0) t) := by
      intro vs ns j hv
      induction hv generalizing j with
      | nil => intro hj; simp at hj
      | cons n t r ih =>
        intro hj
        cases j with
        | zero => exact ⟨t, rfl⟩
        | succ j =>
          obtain ⟨t', ht'⟩ := ih j (by simpa using hj)
          exact ⟨t', by simpa using ht'⟩
    exact key _ hi (by omega)
  exact tail_any hl.typeIs slot_list_getitem.lookup (wpAny_getItem_list hl h0 (by omega) (by simpa using ht) (h t)) hs
local macro_rules | `(tactic| walk_at "subscriptTail Name BinOp ref int") => `(tactic| (k_here; k_dflt (refine' my_item ?k1 ?k2 ?k3 ?k4 ?k5 ?k6 ?_ ?k7; (case k1 => k_asm); (case k2 => k_mem); (case k3 => assumption); (case k4 => first | omega | exact Int.fmod_nonneg_of_pos _ (by omega)); (case k5 => first | omega | exact Int.fmod_lt_of_pos _ (by omega)); (case k6 => omega); (case k7 => with_unfolding_all rfl); k_whole; intro t')))
def Tells (ks : List Int) (k : Int) (v : Value) (X : List (Addr × Obj)) : Prop :=
  (∃ e te, parse ks k.toNat = .error e ∧ v = .int ((e : Nat) : Int) te) ∨ (∃ q e T' b tb te, parse ks k.toNat = .ok (q, e) ∧ KBw.bInts b = q ∧ v = .ref T' ∧ (T', { cls := .type "tuple", data := .seq #[.bytes b tb, .int ((e : Nat) : Int) te] }) ∈ X)
def Told (h₀ : Heap) (L : Addr) (ks : List Int) (k : Int) (v : Value) (h : Heap) : Prop := ∃ X, News h₀ L h X ∧ Tells ks k v X
def Pair (v : Value) (Y : List (Addr × Obj)) : Prop := ∃ p b t told, v = .ref p ∧ (p, ({ cls := .type "tuple", data := .seq #[.bytes b t, told] } : Obj)) ∈ Y ∧ Tells (KBw.bInts b) 0 told Y ∧ (KBw.bInts b).length ≤ 10
theorem first_body {M : Model} {A : Around} {E : Value → Shared → Prop} {s : Shared} {t : Sem Unit} {u : Sem Flow} {Q : Flow → Shared → Prop} (P : Flow → Shared → Prop)
    (h : wpAny M A t (fun _ s' => wpC M A u P (fun _ _ => False) s') (fun _ _ => False) s) (hp : ∀ f s', P f s' → Q f s') : wpAny M A t (fun _ s' => wpC M A u Q E s') E s :=
  wpAny_mono h (fun _ _ hb => wpC_mono hb hp (fun _ _ z => z.elim)) (fun _ _ z => z.elim)
theorem fr_four {g h : Heap} {L : Addr} {x z : Str} {a b c d : Option Value} {rest : Str → Option Value} (F : Fr g L h (fun y => if y = x then a else if y = z then b else if y = x then c else if y = z then d else rest y)) : Fr g L h (fun y => if y = x then a else if y = z then b else rest y) := fr_map F fun y => by
  by_cases h1 : y = x
  · simp only [if_pos h1]
  · by_cases h2 : y = z
    · simp only [if_neg h1, if_pos h2]
    · simp only [if_neg h1, if_neg h2]
/- The names below are taken ahead, so that the head lays no twins of its own data: the proof of a twin
grows with the square of its parts (36 MB of the compiled file), and the kernel is as fast without them. -/
theorem law_holds.tw6265907326580845545 : True := trivial
theorem law_holds.tw2602977815382960713 : True := trivial
theorem law_holds.tw16273140198857503625 : True := trivial
theorem law_holds.tw10368410895845634921 : True := trivial
theorem law_holds.tw16869599502669767113 : True := trivial
theorem law_holds.tw10666784280354678857 : True := trivial
theorem law_holds.tw5920216800500632969 : True := trivial
theorem law_holds.tw59864651932915081 : True := trivial
theorem law_holds.tw4995542688137877417 : True := trivial
theorem law_holds.tw6317479115527610633 : True := trivial
theorem law_holds.tw15694993059591697976 : True := trivial
theorem law_holds.tw1752991872942287768 : True := trivial
theorem law_holds.tw1973129929022764952 : True := trivial
theorem law_holds.tw16190678330180157336 : True := trivial
theorem law_holds.tw3035144380315620824 : True := trivial
theorem law_holds.tw15293083901398250104 : True := trivial
theorem law_holds.tw9889521400790421688 : True := trivial
theorem law_holds.tw18135211599370774712 : True := trivial
theorem law_holds.tw4030767218360268280 : True := trivial
theorem law_holds.tw16009327648451700120 : True := trivial
theorem law_holds.tw16099233806120587224 : True := trivial
theorem law_holds.tw5914491427308094424 : True := trivial
theorem law_holds.tw8835965917227929528 : True := trivial
theorem law_holds.tw10188763426450519768 : True := trivial
theorem law_holds.tw2903333896348957400 : True := trivial
theorem law_holds.tw2006301483956418059 : True := trivial
theorem law_holds.tw13280740594461564331 : True := trivial
theorem law_holds.tw2102315897755806987 : True := trivial
theorem law_holds.tw5907203647135998699 : True := trivial
theorem law_holds.tw676263390381983339 : True := trivial
theorem law_holds.tw1385162719727133579 : True := trivial
theorem law_holds.tw10362271348294423435 : True := trivial
theorem law_holds.tw7495221243884187115 : True := trivial
theorem law_holds.tw7408322871517469003 : True := trivial
theorem law_holds.tw2322801206320994539 : True := trivial
theorem law_holds.tw12889673554181485818 : True := trivial
theorem law_holds.tw5117662029339320154 : True := trivial
theorem law_holds.tw3366817510852727610 : True := trivial
theorem law_holds.tw6586085781419682490 : True := trivial
theorem law_holds.tw7463413868324866074 : True := trivial
theorem law_holds.tw7185456241796803578 : True := trivial
theorem law_holds.tw11625900857008200698 : True := trivial
theorem law_holds.tw7769649832755249146 : True := trivial
theorem law_holds.tw1186782194237197914 : True := trivial
theorem law_holds.tw8040771413219435098 : True := trivial
theorem law_holds.tw16563099163409725306 : True := trivial
theorem law_holds.tw8763168800255643514 : True := trivial
theorem law_holds.tw14749124689793034106 : True := trivial
theorem law_holds.tw3438298445031660282 : True := trivial
theorem law_holds.tw12115171985352901274 : True := trivial
theorem law_holds.tw8957123355933967898 : True := trivial
theorem law_holds.tw7089819591129360890 : True := trivial
theorem law_holds.tw13190703287169160282 : True := trivial
theorem law_holds.tw3253568177066640346 : True := trivial
theorem law_holds.tw4614512636035447770 : True := trivial
theorem law_holds.tw5455921660152230842 : True := trivial
theorem law_holds.tw10027879121665395642 : True := trivial
theorem law_holds.tw18340598423539479173 : True := trivial
theorem law_holds.tw5858263632927829637 : True := trivial
theorem law_holds.tw653560878884961445 : True := trivial
theorem law_holds.tw3912811242725288453 : True := trivial
theorem law_holds.tw2842810181116790245 : True := trivial
theorem law_holds.tw12476058986133298565 : True := trivial
theorem law_holds.tw6709271908398517637 : True := trivial
theorem law_holds.tw17237755526102222789 : True := trivial
theorem law_holds.tw13281950902743806629 : True := trivial
theorem law_holds.tw7304591109411159013 : True := trivial
theorem law_holds.tw11098625913536864229 : True := trivial
theorem law_holds.tw13478230802861573701 : True := trivial
theorem law_holds.tw9288214680346807717 : True := trivial
theorem law_holds.tw9606376775287448836 : True := trivial
theorem law_holds.tw4146061822495498468 : True := trivial
theorem law_holds.tw9317688335297629284 : True := trivial
theorem law_holds.tw14872900085578418628 : True := trivial
theorem law_holds.tw5640673133297012132 : True := trivial
theorem law_holds.tw11426015686315989412 : True := trivial
theorem law_holds.tw12342728606916771844 : True := trivial
theorem law_holds.tw12459966957829302596 : True := trivial
theorem law_holds.tw3927331946688356228 : True := trivial
theorem law_holds.tw18254337876149969668 : True := trivial
theorem law_holds.tw447027507633508388 : True := trivial
theorem law_holds.tw3955097671198598788 : True := trivial
theorem law_holds.tw4037582482628031876 : True := trivial
theorem law_holds.tw1053317679998426468 : True := trivial
theorem law_holds.tw2387193687640843687 : True := trivial
theorem law_holds.tw10876394233666535175 : True := trivial
theorem law_holds.tw9634471323475708679 : True := trivial
theorem law_holds.tw13397297893571687751 : True := trivial
theorem law_holds.tw3136910860242942599 : True := trivial
theorem law_holds.tw12419048959643632839 : True := trivial
theorem law_holds.tw11846676642670509255 : True := trivial
theorem law_holds.tw8417186165934385351 : True := trivial
theorem law_holds.tw2446358144275080391 : True := trivial
theorem law_holds.tw10441050188594101415 : True := trivial
theorem law_holds.tw11781800970755023335 : True := trivial
theorem law_holds.tw5989267464594152519 : True := trivial
theorem law_holds.tw15006436103509636135 : True := trivial
theorem law_holds.tw17923851452625207687 : True := trivial
theorem law_holds.tw3943428198234077543 : True := trivial
theorem law_holds.tw2295933128562542503 : True := trivial
theorem law_holds.tw2644310842459337959 : True := trivial
theorem law_holds.tw3959601488294255719 : True := trivial
theorem law_holds.tw123295346585929383 : True := trivial
theorem law_holds.tw3742325753681652743 : True := trivial
theorem law_holds.tw5451054884063135654 : True := trivial
theorem law_holds.tw2695550118857162214 : True := trivial
theorem law_holds.tw11097158420108258118 : True := trivial
theorem law_holds.tw6667284449218939238 : True := trivial
theorem law_holds.tw850272041215511910 : True := trivial
theorem law_holds.tw4329158554759489670 : True := trivial
theorem law_holds.tw907578622648922086 : True := trivial
theorem law_holds.tw15527639110640922598 : True := trivial
theorem law_holds.tw13392613628428298086 : True := trivial
theorem law_holds.tw13220211186989608806 : True := trivial
theorem law_holds.tw2025218352740532070 : True := trivial
theorem law_holds.tw7404543985812422374 : True := trivial
theorem law_holds.tw8549365171731915398 : True := trivial
theorem law_holds.tw14390095281932903014 : True := trivial
theorem law_holds.tw12622292602297523153 : True := trivial
theorem law_holds.tw14051398506283589457 : True := trivial
theorem law_holds.tw7566432030715092817 : True := trivial
theorem law_holds.tw13431030151845061361 : True := trivial
theorem law_holds.tw2043166853727251185 : True := trivial
theorem law_holds.tw3186734533307500241 : True := trivial
theorem law_holds.tw7820799176418779761 : True := trivial
theorem law_holds.tw881140697980615281 : True := trivial
theorem law_holds.tw2136269947727277649 : True := trivial
theorem law_holds.tw3756957479349018193 : True := trivial
theorem law_holds.tw3682559726232862161 : True := trivial
theorem law_holds.tw15617896438947887921 : True := trivial
theorem law_holds.tw16381176275627223697 : True := trivial
theorem law_holds.tw9207643191828677137 : True := trivial
theorem law_holds.tw6333624483447246961 : True := trivial
theorem law_holds.tw14925382992726071281 : True := trivial
theorem law_holds.tw17974257514489008736 : True := trivial
theorem law_holds.tw10028117763298573888 : True := trivial
theorem law_holds.tw13709617746848070560 : True := trivial
theorem law_holds.tw10024239376800412576 : True := trivial
theorem law_holds.tw5898729028444588960 : True := trivial
theorem law_holds.tw545109181885906688 : True := trivial
theorem law_holds.tw6869992995446874880 : True := trivial
theorem law_holds.tw3974387499553966400 : True := trivial
theorem law_holds.tw6260460797876433568 : True := trivial
theorem law_holds.tw2618386414584295968 : True := trivial
theorem law_holds.tw13190408463805328480 : True := trivial
theorem law_holds.tw4370086069003782432 : True := trivial
theorem law_holds.tw1099259369241382048 : True := trivial
theorem law_holds.tw1377309892636839040 : True := trivial
theorem law_holds.tw10108825076125807744 : True := trivial
theorem law_holds.tw18090433342136740992 : True := trivial
theorem law_holds.tw2152083551845799040 : True := trivial
theorem law_holds.tw17598101756349436640 : True := trivial
theorem law_holds.tw3033269912633744064 : True := trivial
theorem law_holds.tw11223184984439025696 : True := trivial
theorem law_holds.tw7472407996622490835 : True := trivial
theorem law_holds.tw11633083819707477107 : True := trivial
theorem law_holds.tw3426384778480675251 : True := trivial
theorem law_holds.tw718173064312146323 : True := trivial
theorem law_holds.tw5212653520564569363 : True := trivial
theorem law_holds.tw8785698371604719795 : True := trivial
theorem law_holds.tw6861490101519172755 : True := trivial
theorem law_holds.tw1258919526383655059 : True := trivial
theorem law_holds.tw2887050238494874643 : True := trivial
theorem law_holds.tw15609566024721092083 : True := trivial
theorem law_holds.tw1414043511812021011 : True := trivial
theorem law_holds.tw745255978533919091 : True := trivial
theorem law_holds.tw10841264019214440115 : True := trivial
theorem law_holds.tw10007947361888340627 : True := trivial
theorem law_holds.tw8720880381367431298 : True := trivial
theorem law_holds.tw8652346329174877282 : True := trivial
theorem law_holds.tw14983226153234331074 : True := trivial
theorem law_holds.tw2269544990204364226 : True := trivial
theorem law_holds.tw4593294709026258786 : True := trivial
theorem law_holds.tw445335354869643106 : True := trivial
theorem law_holds.tw13250372474279835810 : True := trivial
theorem law_holds.tw15154110283740273250 : True := trivial
theorem law_holds.tw5769158387606399586 : True := trivial
theorem law_holds.tw8266603773606604290 : True := trivial
theorem law_holds.tw10726639523019406850 : True := trivial
theorem law_holds.tw4524032621918665186 : True := trivial
theorem law_holds.tw14354538779393863138 : True := trivial
theorem law_holds.tw6896717019858035522 : True := trivial
theorem law_holds.tw8386679336120195906 : True := trivial
theorem law_holds.tw8330938851228082562 : True := trivial
theorem law_holds.tw18221428039690301666 : True := trivial
theorem law_holds.tw10983241140555628109 : True := trivial
theorem law_holds.tw16461882675039125421 : True := trivial
theorem law_holds.tw15162217921772873613 : True := trivial
theorem law_holds.tw2090888555730037645 : True := trivial
theorem law_holds.tw8176227357466254829 : True := trivial
theorem law_holds.tw13402424001964919149 : True := trivial
theorem law_holds.tw9013377322688217293 : True := trivial
theorem law_holds.tw4323815956820902445 : True := trivial
theorem law_holds.tw602461330855297101 : True := trivial
theorem law_holds.tw15352839923633478061 : True := trivial
theorem law_holds.tw14822640431511872941 : True := trivial
theorem law_holds.tw15452448965706171373 : True := trivial
theorem law_holds.tw14571795756577361901 : True := trivial
theorem law_holds.tw6723812968561706957 : True := trivial
theorem law_holds.tw14774650325386425613 : True := trivial
theorem law_holds.tw17253903310271361901 : True := trivial
theorem law_holds.tw11133525997344109421 : True := trivial
theorem law_holds.tw3896150654470677357 : True := trivial
theorem law_holds.tw8472228645029834797 : True := trivial
theorem law_holds.tw15732109348078318572 : True := trivial
theorem law_holds.tw1928719863018725356 : True := trivial
theorem law_holds.tw2907507879108658156 : True := trivial
theorem law_holds.tw14335913921861858828 : True := trivial
theorem law_holds.tw5981114437932730796 : True := trivial
theorem law_holds.tw9875236377963488844 : True := trivial
theorem law_holds.tw41732636909640268 : True := trivial
theorem law_holds.tw17911580528928914924 : True := trivial
theorem law_holds.tw4581845663705801772 : True := trivial
theorem law_holds.tw1172607208729018732 : True := trivial
theorem law_holds.tw8634839017697508684 : True := trivial
theorem law_holds.tw3776956092104397036 : True := trivial
theorem law_holds.tw11470271118054631628 : True := trivial
theorem law_holds.tw14988988175077273356 : True := trivial
theorem law_holds.tw15448297888555860652 : True := trivial
theorem law_holds.tw11966672015165255308 : True := trivial
theorem law_holds.tw14746732674962391887 : True := trivial
theorem law_holds.tw3494445600050047599 : True := trivial
theorem law_holds.tw10350734228115807855 : True := trivial
theorem law_holds.tw16406091861079842607 : True := trivial
theorem law_holds.tw7696488724909661519 : True := trivial
theorem law_holds.tw5506821171919863439 : True := trivial
theorem law_holds.tw15883345262158282383 : True := trivial
theorem law_holds.tw11017292853192552079 : True := trivial
theorem law_holds.tw8909828626151137519 : True := trivial
theorem law_holds.tw6159533029260741167 : True := trivial
theorem law_holds.tw12134408205421670959 : True := trivial
theorem law_holds.tw14326059299131336239 : True := trivial
theorem law_holds.tw17028624522117568015 : True := trivial
theorem law_holds.tw14497384708736915567 : True := trivial
theorem law_holds.tw8854015012368427407 : True := trivial
theorem law_holds.tw16106779387088534511 : True := trivial
theorem law_holds.tw7302784601001417486 : True := trivial
theorem law_holds.tw16098122237329998606 : True := trivial
theorem law_holds.tw16947615914383616782 : True := trivial
theorem law_holds.tw2078624436916829710 : True := trivial
theorem law_holds.tw8984712037535005518 : True := trivial
theorem law_holds.tw6564709946809587534 : True := trivial
theorem law_holds.tw3390839446522356110 : True := trivial
theorem law_holds.tw9779807473162285230 : True := trivial
theorem law_holds.tw11803358882649189518 : True := trivial
theorem law_holds.tw16822888650487916014 : True := trivial
theorem law_holds.tw2139172203440323022 : True := trivial
theorem law_holds.tw13800757232730249582 : True := trivial
theorem law_holds.tw13983371404066579822 : True := trivial
theorem law_holds.tw4008084134468147086 : True := trivial
theorem law_holds.tw3850334171643177529 : True := trivial
theorem law_holds.tw7407239408455114201 : True := trivial
theorem law_holds.tw18261290160731607033 : True := trivial
theorem law_holds.tw16462895619179043833 : True := trivial
theorem law_holds.tw10516828495840041881 : True := trivial
theorem law_holds.tw13780023080261437657 : True := trivial
theorem law_holds.tw4273555757443719353 : True := trivial
theorem law_holds.tw17499823404086765753 : True := trivial
theorem law_holds.tw12291295341487003417 : True := trivial
theorem law_holds.tw11977050620070087417 : True := trivial
theorem law_holds.tw5731563423909890137 : True := trivial
theorem law_holds.tw14991590004735058009 : True := trivial
theorem law_holds.tw18388893480867403737 : True := trivial
theorem law_holds.tw14498155544194170393 : True := trivial
theorem law_holds.tw18258011307133956473 : True := trivial
theorem law_holds.tw1909877003179415225 : True := trivial
theorem law_holds.tw8890443458166856008 : True := trivial
theorem law_holds.tw2055734563569237896 : True := trivial
theorem law_holds.tw11544315989524547432 : True := trivial
theorem law_holds.tw17253691774821329096 : True := trivial
theorem law_holds.tw10968802771074238664 : True := trivial
theorem law_holds.tw17470365217354309832 : True := trivial
theorem law_holds.tw12732824653754844360 : True := trivial
theorem law_holds.tw13301187468288870568 : True := trivial
theorem law_holds.tw1767730674963353768 : True := trivial
theorem law_holds.tw9069877914133315304 : True := trivial
theorem law_holds.tw13182730311906835528 : True := trivial
theorem law_holds.tw14377833709258309704 : True := trivial
theorem law_holds.tw3005452535816212104 : True := trivial
theorem law_holds.tw1685627985566243432 : True := trivial
theorem law_holds.tw13536078969547264968 : True := trivial
theorem law_holds.tw17993387198741990920 : True := trivial
theorem law_holds.tw10442559174759676424 : True := trivial
theorem law_holds.tw12977093529070104392 : True := trivial
theorem law_holds.tw7497986649931050792 : True := trivial
theorem law_holds.tw455179833554555240 : True := trivial
theorem law_holds.tw10683393492010886728 : True := trivial
theorem law_holds.tw14545874151571354728 : True := trivial
theorem law_holds.tw16935243356766158856 : True := trivial
theorem law_holds.tw10958410103948607464 : True := trivial
theorem law_holds.tw1341266762083198811 : True := trivial
theorem law_holds.tw6934448944433832347 : True := trivial
theorem law_holds.tw16470317323979864763 : True := trivial
theorem law_holds.tw14904137174637212347 : True := trivial
theorem law_holds.tw17865009358878524859 : True := trivial
theorem law_holds.tw784011647948385275 : True := trivial
theorem law_holds.tw1989176631692091739 : True := trivial
theorem law_holds.tw10301956948240465243 : True := trivial
theorem law_holds.tw18234560199702728603 : True := trivial
theorem law_holds.tw8285764192309689115 : True := trivial
theorem law_holds.tw6765152471904792315 : True := trivial
theorem law_holds.tw18203989763732354715 : True := trivial
theorem law_holds.tw724200737284857819 : True := trivial
theorem law_holds.tw13766487248619392586 : True := trivial
theorem law_holds.tw14160533322030094474 : True := trivial
theorem law_holds.tw8191475993861738794 : True := trivial
theorem law_holds.tw11097350217990362986 : True := trivial
theorem law_holds.tw6719018230134327050 : True := trivial
theorem law_holds.tw16873799427995575018 : True := trivial
theorem law_holds.tw1285599515219305098 : True := trivial
theorem law_holds.tw2578278018795888234 : True := trivial
theorem law_holds.tw8249079356659094474 : True := trivial
theorem law_holds.tw16883458599210261866 : True := trivial
theorem law_holds.tw1622690429015379626 : True := trivial
theorem law_holds.tw14883556706271630602 : True := trivial
theorem law_holds.tw16978406815995349258 : True := trivial
theorem law_holds.tw1550374771381668074 : True := trivial
theorem law_holds.tw8970147916757833333 : True := trivial
theorem law_holds.tw2643271747718453845 : True := trivial
theorem law_holds.tw6677821561840896501 : True := trivial
theorem law_holds.tw16720094985154256693 : True := trivial
theorem law_holds.tw1670043908289496885 : True := trivial
theorem law_holds.tw3253820488102484341 : True := trivial
theorem law_holds.tw179590077315354965 : True := trivial
theorem law_holds.tw11764581739189218997 : True := trivial
theorem law_holds.tw14385925486924208373 : True := trivial
theorem law_holds.tw519298541982818421 : True := trivial
theorem law_holds.tw13956741780833797525 : True := trivial
theorem law_holds.tw4916342969005030805 : True := trivial
theorem law_holds.tw9168033884955339765 : True := trivial
theorem law_holds.tw15726739188670627701 : True := trivial
theorem law_holds.tw11463670642173560981 : True := trivial
theorem law_holds.tw6911747868599837429 : True := trivial
theorem law_holds.tw17899081815984039989 : True := trivial
theorem law_holds.tw3595789414353437717 : True := trivial
theorem law_holds.tw6776455111828631412 : True := trivial
theorem law_holds.tw7636989558263936852 : True := trivial
theorem law_holds.tw11609493526922420660 : True := trivial
theorem law_holds.tw4439653461905209652 : True := trivial
theorem law_holds.tw699380112222796084 : True := trivial
theorem law_holds.tw17274716441693411508 : True := trivial
theorem law_holds.tw3046938939346580660 : True := trivial
theorem law_holds.tw7120836010843673076 : True := trivial
theorem law_holds.tw14596297492920191028 : True := trivial
theorem law_holds.tw1791086108937442324 : True := trivial
theorem law_holds.tw15544829507116839252 : True := trivial
theorem law_holds.tw2075624079617657780 : True := trivial
theorem law_holds.tw4503035019201841076 : True := trivial
theorem law_holds.tw10296202853966499060 : True := trivial
theorem law_holds.tw7910590604623066228 : True := trivial
theorem law_holds.tw13028658284911697911 : True := trivial
theorem law_holds.tw12456547296908542839 : True := trivial
theorem law_holds.tw17345407343664743607 : True := trivial
theorem law_holds.tw9682718004065560343 : True := trivial
theorem law_holds.tw10093380194815717143 : True := trivial
theorem law_holds.tw10242277825702978295 : True := trivial
theorem law_holds.tw12847567107135931479 : True := trivial
theorem law_holds.tw11484002064277903863 : True := trivial
theorem law_holds.tw1335265377702380343 : True := trivial
theorem law_holds.tw1496123403401453975 : True := trivial
theorem law_holds.tw3158129796062787159 : True := trivial
theorem law_holds.tw8481075993509181622 : True := trivial
theorem law_holds.tw4441770287765753910 : True := trivial
theorem law_holds.tw4072507727158212662 : True := trivial
theorem law_holds.tw16805829885119392726 : True := trivial
theorem law_holds.tw15802469936163623734 : True := trivial
theorem law_holds.tw12687621791434340054 : True := trivial
theorem law_holds.tw6507877686720480950 : True := trivial
theorem law_holds.tw11677100312832694166 : True := trivial
theorem law_holds.tw13090375584299260822 : True := trivial
theorem law_holds.tw4992725456586698614 : True := trivial
theorem law_holds.tw11690447701083486646 : True := trivial
theorem law_holds.tw9423440377400516374 : True := trivial
theorem law_holds.tw6860709855171689206 : True := trivial
theorem law_holds.tw12835091436910803158 : True := trivial
theorem law_holds.tw1724926542741425601 : True := trivial
theorem law_holds.tw7019463264422422977 : True := trivial
theorem law_holds.tw11881114122080957857 : True := trivial
theorem law_holds.tw981846192996546977 : True := trivial
theorem law_holds.tw16614716721108272449 : True := trivial
theorem law_holds.tw18006792725990754497 : True := trivial
theorem law_holds.tw10465528174321978529 : True := trivial
theorem law_holds.tw11289095316329951393 : True := trivial
theorem law_holds.tw2124134355350193313 : True := trivial
theorem law_holds.tw1762888911704233025 : True := trivial
theorem law_holds.tw6727219029552735585 : True := trivial
theorem law_holds.tw3882201998751590657 : True := trivial
theorem law_holds.tw12296726922439171297 : True := trivial
theorem law_holds.tw2558664710541493025 : True := trivial
theorem law_holds.tw3307954989432871184 : True := trivial
theorem law_holds.tw11182679623053108816 : True := trivial
theorem law_holds.tw15472126771306010800 : True := trivial
theorem law_holds.tw4515466672771955728 : True := trivial
theorem law_holds.tw7604666192120794032 : True := trivial
theorem law_holds.tw15272395603832836080 : True := trivial
theorem law_holds.tw8369274380968253667 : True := trivial
theorem law_holds.tw3979707639553702691 : True := trivial
theorem law_holds.tw10812634152524527747 : True := trivial
theorem law_holds.tw16893121556090616931 : True := trivial
theorem law_holds.tw1691111444261034723 : True := trivial
theorem law_holds.tw6674817763981286723 : True := trivial
theorem law_holds.tw17027635718292003107 : True := trivial
theorem law_holds.tw16836969012518115619 : True := trivial
theorem law_holds.tw14646867148444618371 : True := trivial
theorem law_holds.tw8857742495270377987 : True := trivial
theorem law_holds.tw7311554392007033315 : True := trivial
theorem law_holds.tw14828999820898988419 : True := trivial
theorem law_holds.tw13958071646730322851 : True := trivial
theorem law_holds.tw1035469204868569938 : True := trivial
theorem law_holds.tw11347954631545130290 : True := trivial
theorem law_holds.tw14789792462180790578 : True := trivial
theorem law_holds.tw2557128651999224082 : True := trivial
theorem law_holds.tw498061464947678834 : True := trivial
theorem law_holds.tw13882729330811710610 : True := trivial
theorem law_holds.tw14892801356780361778 : True := trivial
theorem law_holds.tw11100686419730198450 : True := trivial
theorem law_holds.tw15829985883664642994 : True := trivial
theorem law_holds.tw15333956030411951890 : True := trivial
theorem law_holds.tw17180001009569633970 : True := trivial
theorem law_holds.tw12303009252429188658 : True := trivial
theorem law_holds.tw9992725586745946429 : True := trivial
theorem law_holds.tw15274831704391544125 : True := trivial
theorem law_holds.tw9849722394096787677 : True := trivial
theorem law_holds.tw12626328134170644701 : True := trivial
theorem law_holds.tw6499956759230125245 : True := trivial
theorem law_holds.tw12223724995276690173 : True := trivial
theorem law_holds.tw18269650602155537469 : True := trivial
theorem law_holds.tw8553002610548859549 : True := trivial
theorem law_holds.tw1778412455037948541 : True := trivial
theorem law_holds.tw15661869461025623997 : True := trivial
theorem law_holds.tw3570663519805603677 : True := trivial
theorem law_holds.tw10371022188087798493 : True := trivial
theorem law_holds.tw11126432536435168541 : True := trivial
theorem law_holds.tw15806970514647361693 : True := trivial
theorem law_holds.tw11924911360389889469 : True := trivial
theorem law_holds.tw16760957895259694429 : True := trivial
theorem law_holds.tw3956099054510807996 : True := trivial
theorem law_holds.tw660297872995803996 : True := trivial
theorem law_holds.tw7356724547972884604 : True := trivial
theorem law_holds.tw10609929442622069884 : True := trivial
theorem law_holds.tw10817052189556005596 : True := trivial
theorem law_holds.tw607667584577438428 : True := trivial
theorem law_holds.tw10264638600885302300 : True := trivial
theorem law_holds.tw2856731137302751260 : True := trivial
theorem law_holds.tw9843604407834444796 : True := trivial
theorem law_holds.tw1819975233463548508 : True := trivial
theorem law_holds.tw6881874429007886204 : True := trivial
theorem law_holds.tw8570087061310353148 : True := trivial
theorem law_holds.tw631266038723830076 : True := trivial
theorem law_holds.tw8666519363043736892 : True := trivial
theorem law_holds.tw11404014056486942332 : True := trivial
theorem law_holds.tw10566571302883470556 : True := trivial
theorem law_holds.tw5112083995522966620 : True := trivial
theorem law_holds.tw8312341600987523519 : True := trivial
theorem law_holds.tw7221428835167493151 : True := trivial
theorem law_holds.tw15191720212996534143 : True := trivial
theorem law_holds.tw8514742172934523775 : True := trivial
theorem law_holds.tw14289194402921355359 : True := trivial
theorem law_holds.tw3850375180904979519 : True := trivial
theorem law_holds.tw2175471002772951711 : True := trivial
theorem law_holds.tw4818577856007422655 : True := trivial
theorem law_holds.tw12780804625047726367 : True := trivial
theorem law_holds.tw3756308257209627903 : True := trivial
theorem law_holds.tw576407869801174206 : True := trivial
theorem law_holds.tw8790382262760724670 : True := trivial
theorem law_holds.tw1096898596823417342 : True := trivial
theorem law_holds.tw5274592661964301406 : True := trivial
theorem law_holds.tw3850404396616230974 : True := trivial
theorem law_holds.tw8984152853971343422 : True := trivial
theorem law_holds.tw13650905803964671038 : True := trivial
theorem law_holds.tw12116493165278983582 : True := trivial
theorem law_holds.tw6932145663904884126 : True := trivial
theorem law_holds.tw11946022803392826334 : True := trivial
theorem law_holds.tw17713402740875732926 : True := trivial
theorem law_holds.tw17942709131360195518 : True := trivial
theorem law_holds.tw10486713781251687710 : True := trivial
theorem law_holds.tw9529696498207198238 : True := trivial
theorem law_holds.tw9255152265573255198 : True := trivial
theorem law_holds.tw6116373271238335038 : True := trivial
theorem law_holds.tw15150646450996357022 : True := trivial
theorem law_holds.tw3049941959672503198 : True := trivial
theorem law_holds.tw1905533677188600702 : True := trivial
theorem law_holds.tw4781243967656130014 : True := trivial
theorem law_holds.tw4889031023730116350 : True := trivial
theorem law_holds.tw5364902710198789758 : True := trivial
theorem law_holds.tw291741984990407120 : True := trivial
theorem law_holds.tw16504466354890438909 : True := trivial
theorem law_holds.tw11612918611221602328 : True := trivial
set_option maxHeartbeats 40000000 in
set_option Elab.async true in
theorem law_holds : PySem.Challenge.rw_or0055_01.Holds := by
  w_on
  o_law
  o_head Mine.hook
  (case hw => w_witness2)
  intro w s₀ s₁ mg mb G Y fa o pm cd doc dV kV ho hd hcd hD hmg hg args vals as hpre hlay hrd hwl hlo
  have KX : (Mine.hook.heap_1 w.params).In s₁.heap := Y
  have X := (Ground.X G).1
  have V := (Ground.X G).2
  refine Ground.open G ?_
  intro T B D TE TW
  try (refine guard_noD D (by decide +kernel) ?_; clear D)
  obtain ⟨_, _, M⟩ := bmod_of_top T
  have TA := at_of_top T
  try (obtain ⟨_, _, he, B0⟩ := based_of_top T rfl hmg ho hd; have he' : cd = _ := he; subst he'; clear he)
  clear hmg
  wrow_args hpre hlay hrd hwl hlo
  refine enter_callC ?_
  w_top on
  refine codeC_mono ?_ (fun _ _ g => GoodW.toG g)
  have K0 := below_caller (Top.heap T)
  have he := Dflts.none hD rfl; subst he; have he := Dflts.noKw hD; subst he
  refine callC_cellsN (by decide) ho (fd_plain hd) (Top.nolimit T) hcd rfl (kinds_of (by kinds_ok)) (by decide) fun h₁ tk₁ cells F N0 X0 => ?_
  cells_open X0
  clear hd TA
  k_drop
  refine wpC_execs_cons ?_
  refine wpC_of ?_
  k_fold
  walk_at "c_walk"
  refine wpC_execs_cons ?_
  refine wpC_of ?_
  k_fold
  walk_at "c_walk"
  refine wpC_execs_cons ?_
  refine wpC_of ?_
  k_fold
  walk_at "c_walk"
  rename Fr _ _ _ _ => F3
  rename News _ _ _ _ => N3
  rename KBa.In _ => hkin
  rename IntsAre _ (_ ++ [3]) => hcs
  rename ¬ (63 : Int) < _ => h63
  obtain ⟨r₀, t0, ks₀, D, cw, cs, M, hb0, hz0, hI, hne, hcl, F4, N4⟩ : ∃ (r₀ : Array UInt8) (t0 : Tok) (ks₀ : List Int) (D : Addr) (cw : List Value) (cs : List Int) (M : Str → Option Value), KBw.bInts r₀ = ks₀ ∧ ks₀.length ≤ 12 ∧ IntsAre cw cs ∧ 1 ≤ cs.length ∧ cs.length ≤ 31 ∧
      Fr s₁.heap s₁.heap.objs.size _ (fun y => if y = "octets" then some (.bytes r₀ t0) else if y = "cells" then some (.ref D) else M y) ∧ News s₁.heap s₁.heap.objs.size _ [(D, W.listOf cw.toArray 0)] := by
    refine ⟨_, _, _, _, _, _, _, KBa.ints_make hkin, ?_, hcs, ?_, ?_, F3, news_one N3 (by k_mem)⟩
    · simp only [List.length_map, List.length_take, List.length_drop, List.length_append, List.length_cons, List.length_nil]
      omega
    · simp
    · simp only [List.length_map, List.length_take, List.length_append, List.length_cons, List.length_nil]
      omega
  clear F3 N3
  obtain ⟨P4, hP4⟩ : ∃ P4 : Flow → Shared → Prop, ∀ f s', P4 f s' ↔ (f = .next ∧ ∃ (r : Array UInt8) (tr : Tok) (ks : List Int) (h' : Heap) (tk' : Nat), s' = { s₁ with heap := h', toks := tk' } ∧
      Fr s₁.heap s₁.heap.objs.size h' (fun y => if y = "octets" then some (.bytes r tr) else if y = "cells" then some (.ref D) else M y) ∧ News s₁.heap s₁.heap.objs.size h' [(D, W.listOf cw.toArray 0)] ∧ KBw.bInts r = ks ∧ ks.length ≤ 13) := ⟨_, fun _ _ => Iff.rfl⟩
  refine wpC_execs_cons ?_
  refine wpC_mono (Q := P4) (E := fun _ _ => False) ?st4 (fun f s' h4 => ?rest4) (fun _ _ z => z.elim)
  case st4 =>
    refine wpC_of ?_
    walk_at "c_walkd"
    · rename Fr _ _ _ _ => FZ
      rename News _ _ _ _ => NZ
      rename KBw.bInts (_ ++ _) = _ => happ
      refine (hP4 _ _).mpr ⟨rfl, _, _, _, _, _, rfl, fr_twice FZ, NZ, happ, ?_⟩
      simp only [List.length_append, List.length_map, List.length_cons, List.length_nil]
      omega
    · rename Fr _ _ _ _ => FZ
      rename News _ _ _ _ => NZ
      exact (hP4 _ _).mpr ⟨rfl, _, _, _, _, _, rfl, FZ, NZ, hb0, by omega⟩
  case rest4 =>
    obtain ⟨rfl, r, tr, ks, h₄, tk₄, rfl, F5, N5, hb, hz⟩ := (hP4 _ _).mp h4
    clear hP4 h4 F4 N4
    try dsimp only
    obtain ⟨P5, hP5⟩ : ∃ P5 : Flow → Shared → Prop, ∀ f s', P5 f s' ↔ (f = .next ∧ ∃ (k : Int) (ta : Tok) (h' : Heap) (tk' : Nat), s' = { s₁ with heap := h', toks := tk' } ∧
      Fr s₁.heap s₁.heap.objs.size h' (fun y => if y = "at" then some (.int k ta) else if y = "octets" then some (.bytes r tr) else if y = "cells" then some (.ref D) else M y) ∧ 0 ≤ k ∧ k ≤ (ks.length : Int)) := ⟨_, fun _ _ => Iff.rfl⟩
    refine wpC_execs_cons ?_
    refine wpC_mono (Q := P5) (E := fun _ _ => False) ?st5 (fun f s' h5 => ?rest5) (fun _ _ z => z.elim)
    case st5 =>
      refine wpC_of ?_
      walk_at "c_walkd"
      · rename Fr _ _ _ _ => FZ
        have hlt := Int.fmod_lt_of_pos (cs.getD ((1 : Int).fmod (cs.length : Int)).toNat 0) (b := (ks.length : Int) + 1) (by omega)
        exact (hP5 _ _).mpr ⟨rfl, _, _, _, _, rfl, FZ, Int.fmod_nonneg_of_pos _ (by omega), by omega⟩
      · rename Fr _ _ _ _ => FZ
        exact (hP5 _ _).mpr ⟨rfl, _, _, _, _, rfl, FZ, by omega, by omega⟩
    case rest5 =>
      obtain ⟨rfl, k, ta, h₅, tk₅, rfl, F6, hk0, hk1⟩ := (hP5 _ _).mp h5
      clear hP5 h5 F5 N5
      try dsimp only
      obtain ⟨P6, hP6⟩ : ∃ P6 : Flow → Shared → Prop, ∀ f s', P6 f s' ↔ (f = .next ∧ ∃ (dv : Value) (h' : Heap) (tk' : Nat), s' = { s₁ with heap := h', toks := tk' } ∧
        Fr s₁.heap s₁.heap.objs.size h' (fun y => if y = "due" then some dv else if y = "at" then some (.int k ta) else if y = "octets" then some (.bytes r tr) else if y = "cells" then some (.ref D) else M y) ∧ Told s₁.heap s₁.heap.objs.size ks k dv h') := ⟨_, fun _ _ => Iff.rfl⟩
      refine wpC_execs_cons ?_
      refine wpC_mono (Q := P6) (E := fun _ _ => False) ?st6 (fun f s' h6 => ?rest6) (fun _ _ z => z.elim)
      case st6 =>
        refine wpC_Assign_Name ?_
        refine wpC_Call_Name ?_
        walk_at "c_walkd"
        walk_at "c_call"
        walk_at "c_walkd"
        refine wpC_call ?_
        rename Fr _ _ _ _ => FZ
        k_dflt refine' due_K K0 FZ KX News.nil T ?hck ?hdp hb ?hz hk0 hk1 ?hok ?hno
        case hck => exact rfl
        case hdp => decide
        case hz => omega
        case hok =>
          intro q e hp T' b tb te h' tk' hbq F' N'
          dsimp only
          refine wpC_of ?_
          walk_at "c_walkd"
          rename Fr _ _ _ _ => FY
          rename News _ _ _ _ => NY
          exact (hP6 _ _).mpr ⟨rfl, _, _, _, rfl, FY, _, NY, .inr ⟨q, e, T', b, tb, te, hp, hbq, rfl, .head _⟩⟩
        case hno =>
          intro e hp te h' tk' F' N'
          dsimp only
          refine wpC_of ?_
          walk_at "c_walkd"
          rename Fr _ _ _ _ => FY
          exact (hP6 _ _).mpr ⟨rfl, _, _, _, rfl, FY, [], News.nil, .inl ⟨e, te, hp, rfl⟩⟩
      case rest6 =>
        obtain ⟨rfl, dv, h₆, tk₆, rfl, F7, hT⟩ := (hP6 _ _).mp h6
        clear hP6 h6 F6
        try dsimp only
        obtain ⟨P7, hP7⟩ : ∃ P7 : Flow → Shared → Prop, ∀ f s', P7 f s' ↔ (f = .next ∧ ∃ (h' : Heap) (tk' : Nat), s' = { s₁ with heap := h', toks := tk' } ∧
          Fr s₁.heap s₁.heap.objs.size h' (fun y => if y = "due" then some dv else if y = "at" then some (.int k ta) else if y = "octets" then some (.bytes r tr) else if y = "cells" then some (.ref D) else M y) ∧ Told s₁.heap s₁.heap.objs.size ks k dv h') := ⟨_, fun _ _ => Iff.rfl⟩
        refine wpC_execs_cons ?_
        refine wpC_mono (Q := P7) (E := fun _ _ => False) ?st7 (fun f s' h7 => ?rest7) (fun _ _ z => z.elim)
        case st7 =>
          obtain ⟨X, NX, hT⟩ := hT
          rcases hT with ⟨e, te, hp, rfl⟩ | ⟨q, e, T', b, tb, te, hp, hbq, rfl, hTX⟩
          · refine wpC_If ?_
            refine wpC_isTrue_Compare1 ?_
            refine wpC_Call_Name ?_
            walk_at "c_walkd"
            walk_at "c_call"
            walk_at "c_walkd"
            refine wpC_call ?_
            rename Fr _ _ _ _ => FZ
            rename News _ _ _ _ => NZ
            k_dflt refine' heard_K K0 FZ KX NZ T KX T ?hck ?hdp hb ?hz hk0 hk1 ?hok ?hno
            case hck => exact rfl
            case hdp => decide
            case hz => omega
            case hok =>
              intro q' e' hp'
              rw [hp] at hp'
              cases hp'
            case hno =>
              intro e' hp' te' h' tk' F' N'
              rw [hp] at hp'
              cases hp'
              dsimp only
              walk_at "c_walkd"
              · exact absurd rfl (by assumption)
              · rename Fr _ _ _ _ => FZ
                exact wpC_execs_nil ((hP7 _ _).mpr ⟨rfl, _, _, rfl, FZ, X, N', .inl ⟨e, te, hp, rfl⟩⟩)
          · refine wpC_If ?_
            refine wpC_isTrue_Compare1 ?_
            refine wpC_Call_Name ?_
            walk_at "c_walkd"
            walk_at "c_call"
            walk_at "c_walkd"
            refine wpC_call ?_
            rename Fr _ _ _ _ => FZ
            rename News _ _ _ _ => NZ
            k_dflt refine' heard_K K0 FZ KX NZ T KX T ?hck ?hdp hb ?hz hk0 hk1 ?hok ?hno
            case hck => exact rfl
            case hdp => decide
            case hz => omega
            case hno =>
              intro e' hp'
              rw [hp] at hp'
              cases hp'
            case hok =>
              intro q' e' hp' T2 b2 tb2 te2 h' tk' hbq2 F' N'
              rw [hp] at hp'
              cases hp'
              obtain rfl : b = b2 := ints_inj (hbq.trans hbq2.symm)
              dsimp only
              walk1
              try dsimp only
              refine tup_ne_same (N' _ (.head _)).1 (N' _ (.tail _ hTX)).1 (by ke_room) ?_
              walk_at "c_walkd"
              rename Fr _ _ _ _ => FZ
              exact wpC_execs_nil ((hP7 _ _).mpr ⟨rfl, _, _, rfl, FZ, X, cb_drop N' (fun _ h => .tail _ h), .inr ⟨q, e, T', b, tb, te, hp, hbq, rfl, hTX⟩⟩)
        case rest7 =>
          obtain ⟨rfl, h₇, tk₇, rfl, F8, hT⟩ := (hP7 _ _).mp h7
          clear hP7 h7 F7
          try dsimp only
          obtain ⟨X, NX, hT⟩ := hT
          obtain ⟨P8, hP8⟩ : ∃ P8 : Flow → Shared → Prop, ∀ f s', P8 f s' ↔ (f = .next ∧ ∃ (u1 u2 : Option Value) (Z : List (Addr × Obj)) (h' : Heap) (tk' : Nat), s' = { s₁ with heap := h', toks := tk' } ∧
            Fr s₁.heap s₁.heap.objs.size h' (fun y => if y = "told" then u1 else if y = "text" then u2 else if y = "due" then some dv else if y = "at" then some (.int k ta) else if y = "octets" then some (.bytes r tr) else if y = "cells" then some (.ref D) else M y) ∧
            News s₁.heap s₁.heap.objs.size h' Z ∧ (∀ p ∈ X, p ∈ Z)) := ⟨_, fun _ _ => Iff.rfl⟩
          refine wpC_execs_cons ?_
          refine wpC_mono (Q := P8) (E := fun _ _ => False) ?st8 ?rest8 ?ee8
          case ee8 => exact fun _ _ z => z.elim
          case st8 =>
            obtain ⟨P8a, hP8a⟩ : ∃ P8a : Value → Shared → Prop, ∀ v s', P8a v s' ↔ (∃ (TD : Addr) (items : Array Value) (nn : Nat) (Z : List (Addr × Obj)) (h' : Heap) (tk' : Nat), v = .ref TD ∧ s' = { s₁ with heap := h', toks := tk' } ∧
              Fr s₁.heap s₁.heap.objs.size h' (fun y => if y = "due" then some dv else if y = "at" then some (.int k ta) else if y = "octets" then some (.bytes r tr) else if y = "cells" then some (.ref D) else M y) ∧
              News s₁.heap s₁.heap.objs.size h' Z ∧ (TD, ({ cls := .type "tuple", data := .seq items nn } : Obj)) ∈ Z ∧ (∀ (i : Nat) (v : Value), items[i]? = some v → Pair v Z) ∧ (∀ p ∈ X, p ∈ Z)) := ⟨_, fun _ _ => Iff.rfl⟩
            refine for_C ?hE8 ?_
            case hE8 => exact fun _ _ h => False.elim h
            refine wpAny_mono (Q := P8a) (E := fun _ _ => False) ?it8 ?loop8 ?ee8a
            case ee8a => exact fun _ _ z => z.elim
            case it8 =>
              walk_at "c_walkd"
              rename News _ _ _ _ => NY
              rename Fr _ _ _ _ => FY
              refine (hP8a _ _).mpr ⟨_, _, _, _, _, _, rfl, rfl, FY, NY, .head _, ?_, fun p hp => ?_⟩
              · intro i v hv
                rcases i with _ | _ | _ | _ | _ | _ | _ | i
                · cases hv
                  exact ⟨_, _, _, _, rfl, by k_mem, .inr ⟨[97, 34, 98], 6, _, _, _, _, rfl, rfl, rfl, by k_mem⟩, by decide⟩
                · cases hv
                  exact ⟨_, _, _, _, rfl, by k_mem, .inr ⟨[], 2, _, _, _, _, rfl, rfl, rfl, by k_mem⟩, by decide⟩
                · cases hv
                  exact ⟨_, _, _, _, rfl, by k_mem, .inr ⟨[127], 3, _, _, _, _, rfl, rfl, rfl, by k_mem⟩, by decide⟩
                · cases hv
                  exact ⟨_, _, _, _, rfl, by k_mem, .inl ⟨2, _, rfl, rfl⟩, by decide⟩
                · cases hv
                  exact ⟨_, _, _, _, rfl, by k_mem, .inl ⟨2, _, rfl, rfl⟩, by decide⟩
                · cases hv
                  exact ⟨_, _, _, _, rfl, by k_mem, .inl ⟨0, _, rfl, rfl⟩, by decide⟩
                · cases hv
                  exact ⟨_, _, _, _, rfl, by k_mem, .inl ⟨0, _, rfl, rfl⟩, by decide⟩
                · simp at hv
              · repeat (first | exact hp | apply List.Mem.tail)
            case loop8 =>
              intro v s' hv
              obtain ⟨TD, items, nn, Z, h₈, tk₈, rfl, rfl, F9, NZ, hTD, hPr, hXZ⟩ := (hP8a _ _).mp hv
              clear hP8a hv F8 NX
              try dsimp only
              refine wpAny_pyIter_tuple ⟨_, (NZ _ hTD).1, rfl, _, rfl⟩ ?_
              have hDI : ∀ p ∈ Z, p.1 < h₈.objs.size := fun p hp => Heap.lt_size (NZ p hp).1
              have F10 := F9.push { cls := .type "tuple_iterator", data := .fields #[.ref TD, .int 0 0] }
              have N10 := News.push F9 NZ { cls := .type "tuple_iterator", data := .fields #[.ref TD, .int 0 0] }
              dsimp only
              revert hDI F10 N10
              generalize h₈.objs.size = I
              intro hDI F10 N10
              replace F10 := fr_map F10 (m' := fun y => if y = "told" then M "told" else if y = "text" then M "text" else if y = "due" then some dv else if y = "at" then some (.int k ta) else if y = "octets" then some (.bytes r tr) else if y = "cells" then some (.ref D) else M y) (fun y => by
                by_cases h1 : y = "told"
                · subst h1; rfl
                · by_cases h2 : y = "text"
                  · subst h2; rfl
                  · rw [if_neg h1, if_neg h2])
              refine ⟨fun n s' => ∃ (i : Nat) (o : Obj) (h' : Heap) (tk' : Nat) (u1 u2 : Option Value), s' = { s₁ with heap := h', toks := tk' } ∧
                Fr s₁.heap s₁.heap.objs.size h' (fun y => if y = "told" then u1 else if y = "text" then u2 else if y = "due" then some dv else if y = "at" then some (.int k ta) else if y = "octets" then some (.bytes r tr) else if y = "cells" then some (.ref D) else M y) ∧
                News s₁.heap s₁.heap.objs.size h' ((I, o) :: Z) ∧ o.cls = .type "tuple_iterator" ∧ o.data = .fields #[.ref TD, .int (i : Nat) 0] ∧ i ≤ items.size ∧ n + i = items.size,
                items.size, ⟨0, _, _, _, _, _, rfl, F10, N10, rfl, rfl, Nat.zero_le _, by omega⟩, ?_⟩
              clear F10 N10 F9 NZ
              rintro n s' ⟨i, o, h', tk', u1, u2, rfl, Fi, Ni, hoc, hod, hi, hn⟩
              have hIT : h'.IsTupleIter I TD i := ⟨o, (Ni _ (.head _)).1, hoc, hod⟩
              have hTT : h'.IsTuple TD items := ⟨_, (Ni _ (.tail _ hTD)).1, rfl, _, rfl⟩
              by_cases hlt : i < items.size
              · refine wpAny_pyNext_tuple_item (s := { s₁ with heap := h', toks := tk' }) hIT hTT (x := items[i]) (by simp [hlt]) fun h₂ hit₂ hs₂ => ?_
                obtain ⟨p, b, t, told, hpe, hpZ, htl, hbz⟩ := hPr i items[i] (by simp [hlt])
                rw [hpe]
                clear hpe hIT hTT
                obtain ⟨o₂, ho₂, hc₂, hd₂⟩ := id hit₂
                have F₂ := Fi.change hs₂ (Ni _ (.head _)).2.1 (Ni _ (.head _)).2.2
                have N₂ := news_set (pre := []) (post := Z) Ni (fun p hp => nomatch hp) (fun p hp => Nat.ne_of_lt (hDI p hp)) hs₂ ho₂
                dsimp only [List.nil_append] at N₂ ⊢
                refine letGo_tupleiter hit₂ ?_
                clear Fi Ni hs₂ ho₂ hit₂
                have N₃ : News s₁.heap s₁.heap.objs.size h₂ ((p, ({ cls := .type "tuple", data := .seq #[.bytes b t, told] } : Obj)) :: (I, o₂) :: Z) := fun q hq => by
                  rcases List.mem_cons.mp hq with rfl | hq
                  · exact N₂ _ (.tail _ hpZ)
                  · exact N₂ _ hq
                clear N₂
                obtain ⟨PB, hPB⟩ : ∃ PB : Flow → Shared → Prop, ∀ f s', PB f s' ↔ (f = .next ∧ ∃ (h' : Heap) (tk' : Nat) (u1 u2 : Option Value), s' = { s₁ with heap := h', toks := tk' } ∧
                  Fr s₁.heap s₁.heap.objs.size h' (fun y => if y = "told" then u1 else if y = "text" then u2 else if y = "due" then some dv else if y = "at" then some (.int k ta) else if y = "octets" then some (.bytes r tr) else if y = "cells" then some (.ref D) else M y) ∧
                  News s₁.heap s₁.heap.objs.size h' ((I, o₂) :: Z)) := ⟨_, fun _ _ => Iff.rfl⟩
                have hEnd : ∀ f s', PB f s' → ∃ m, m < n ∧ f = .next ∧ ∃ (i : Nat) (o : Obj) (h' : Heap) (tk' : Nat) (u1 u2 : Option Value), s' = { s₁ with heap := h', toks := tk' } ∧
                    Fr s₁.heap s₁.heap.objs.size h' (fun y => if y = "told" then u1 else if y = "text" then u2 else if y = "due" then some dv else if y = "at" then some (.int k ta) else if y = "octets" then some (.bytes r tr) else if y = "cells" then some (.ref D) else M y) ∧
                    News s₁.heap s₁.heap.objs.size h' ((I, o) :: Z) ∧ o.cls = .type "tuple_iterator" ∧ o.data = .fields #[.ref TD, .int (i : Nat) 0] ∧ i ≤ items.size ∧ m + i = items.size := by
                  intro f s' hf
                  obtain ⟨rfl, h', tk', u1, u2, rfl, F', N'⟩ := (hPB _ _).mp hf
                  exact ⟨items.size - (i + 1), by omega, rfl, i + 1, o₂, h', tk', u1, u2, rfl, F', N', hc₂, hd₂, by omega, by omega⟩
                refine first_body PB ?bd8 ?bp8
                case bp8 =>
                  intro f s' hf
                  obtain ⟨m, hm, rfl, z⟩ := hEnd f s' hf
                  exact ⟨m, hm, z⟩
                case bd8 =>
                  clear hEnd hd₂ hc₂
                  rcases htl with ⟨e, te, hp, rfl⟩ | ⟨q, e, T', b', tb, te, hp, hbq, rfl, hTZ⟩
                  · walk_at "c_walkd"
                    rename Fr _ _ _ _ => FX
                    rename News _ _ _ _ => NX'
                    replace FX := fr_four FX
                    try dsimp only
                    refine wpC_execs_cons ?_
                    refine wpC_If ?_
                    refine wpC_isTrue_Or ?_
                    refine wpC_isTrue_Compare1 ?_
                    refine wpC_Call_Name ?_
                    walk_at "c_walkd"
                    walk_at "c_call"
                    walk_at "c_walkd"
                    refine wpC_call ?_
                    rename Fr _ _ _ _ => FZ
                    rename News _ _ _ _ => NZ
                    k_dflt refine' heard_K K0 FZ KX NZ T KX T ?hck ?hdp ?hb ?hz ?hk0 ?hk1 ?hok ?hno
                    case hck => exact rfl
                    case hdp => decide
                    case hb => exact rfl
                    case hz => omega
                    case hk0 => omega
                    case hk1 => omega
                    case hok =>
                      intro q' e' hp'
                      rw [hp] at hp'
                      cases hp'
                    case hno =>
                      intro e' hp' te' h' tk' F' N'
                      rw [hp] at hp'
                      cases hp'
                      dsimp only
                      walk_at "c_walkd"
                      · exact absurd rfl (by assumption)
                      · refine wpC_isTrue_Compare1 ?_
                        refine wpC_Call_Name ?_
                        walk_at "c_walkd"
                        walk_at "c_call"
                        walk_at "c_walkd"
                        refine wpC_call ?_
                        rename Fr _ _ _ _ => FZ
                        rename News _ _ _ _ => NZ
                        k_dflt refine' due_K K0 FZ KX NZ T ?hck ?hdp ?hb ?hz ?hk0 ?hk1 ?hok ?hno
                        case hck => exact rfl
                        case hdp => decide
                        case hb => exact rfl
                        case hz => omega
                        case hk0 => omega
                        case hk1 => omega
                        case hok =>
                          intro q' e' hp'
                          rw [hp] at hp'
                          cases hp'
                        case hno =>
                          intro e' hp' te' h' tk' F' N'
                          rw [hp] at hp'
                          cases hp'
                          dsimp only
                          walk_at "c_walkd"
                          · exact absurd rfl (by assumption)
                          · rename Fr _ _ _ _ => FZ
                            exact wpC_execs_nil (wpC_execs_nil ((hPB _ _).mpr ⟨rfl, _, _, _, _, rfl, FZ, cb_drop N' (fun _ h => .tail _ h)⟩))
                  · walk_at "c_walkd"
                    rename Fr _ _ _ _ => FX
                    rename News _ _ _ _ => NX'
                    replace FX := fr_four FX
                    try dsimp only
                    refine wpC_execs_cons ?_
                    refine wpC_If ?_
                    refine wpC_isTrue_Or ?_
                    refine wpC_isTrue_Compare1 ?_
                    refine wpC_Call_Name ?_
                    walk_at "c_walkd"
                    walk_at "c_call"
                    walk_at "c_walkd"
                    refine wpC_call ?_
                    rename Fr _ _ _ _ => FZ
                    rename News _ _ _ _ => NZ
                    k_dflt refine' heard_K K0 FZ KX NZ T KX T ?hck ?hdp ?hb ?hz ?hk0 ?hk1 ?hok ?hno
                    case hck => exact rfl
                    case hdp => decide
                    case hb => exact rfl
                    case hz => omega
                    case hk0 => omega
                    case hk1 => omega
                    case hno =>
                      intro e' hp'
                      rw [hp] at hp'
                      cases hp'
                    case hok =>
                      intro q' e' hp' T2 b2 tb2 te2 h' tk' hbq2 F' N'
                      rw [hp] at hp'
                      cases hp'
                      obtain rfl : b' = b2 := ints_inj (hbq.trans hbq2.symm)
                      dsimp only
                      walk1
                      try dsimp only
                      refine tup_ne_same (N' _ (.head _)).1 (N' _ (.tail _ (.tail _ (.tail _ hTZ)))).1 (by ke_room) ?_
                      walk_at "c_walkd"
                      · refine wpC_isTrue_Compare1 ?_
                        refine wpC_Call_Name ?_
                        walk_at "c_walkd"
                        walk_at "c_call"
                        walk_at "c_walkd"
                        refine wpC_call ?_
                        rename Fr _ _ _ _ => FZ
                        rename News _ _ _ _ => NZ
                        k_dflt refine' due_K K0 FZ KX NZ T ?hck ?hdp ?hb ?hz ?hk0 ?hk1 ?hok ?hno
                        case hck => exact rfl
                        case hdp => decide
                        case hb => exact rfl
                        case hz => omega
                        case hk0 => omega
                        case hk1 => omega
                        case hno =>
                          intro e' hp'
                          rw [hp] at hp'
                          cases hp'
                        case hok =>
                          intro q' e' hp' T2 b2 tb2 te2 h' tk' hbq2 F' N'
                          rw [hp] at hp'
                          cases hp'
                          obtain rfl : b' = b2 := ints_inj (hbq.trans hbq2.symm)
                          dsimp only
                          walk1
                          try dsimp only
                          refine tup_ne_same (N' _ (.head _)).1 (N' _ (.tail _ (.tail _ (.tail _ (.tail _ hTZ))))).1 (by ke_room) ?_
                          walk_at "c_walkd"
                          · rename Fr _ _ _ _ => FZ
                            exact wpC_execs_nil (wpC_execs_nil ((hPB _ _).mpr ⟨rfl, _, _, _, _, rfl, FZ, cb_drop N' (fun _ h => .tail _ (.tail _ (.tail _ h)))⟩))
              · have hie : i = items.size := by omega
                refine wpAny_pyNext_tuple_end (s := { s₁ with heap := h', toks := tk' }) rfl hIT hTT (by simp; omega) fun h₂ he₂ => ?_
                dsimp only
                refine (hP8 _ _).mpr ⟨rfl, u1, u2, Z, _, _, rfl, ⟨Fi.ns.extBut he₂ (Ne.symm (Ni _ (.head _)).2.1), fun b o e => he₂ b o (fun q => by rw [q, (Ni _ (.head _)).2.2] at e; cases e) (Fi.keep b o e), Fi.above⟩, fun p hp => ?_, hXZ⟩
                have z := Ni p (.tail _ hp)
                exact ⟨he₂ _ _ (Nat.ne_of_lt (hDI p hp)) z.1, z.2⟩
          case rest8 =>
            intro f s' h8
            obtain ⟨rfl, u1, u2, Z, h₉, tk₉, rfl, F10, N10, hXZ⟩ := (hP8 _ _).mp h8
            clear hP8 h8 F8 NX
            try dsimp only
            rcases hT with ⟨e, te, hp, rfl⟩ | ⟨q, e, T', b, tb, te, hp, hbq, rfl, hTX⟩
            · refine wpC_execs_cons ?_
              refine wpC_If ?_
              refine wpC_of ?_
              walk_at "c_walkd"
              refine wpC_execs_nil ?_
              try dsimp only
              refine wpC_execs_cons ?_
              refine wpC_of ?_
              walk_at "c_walkd"
              wrow_close
            · have N11 : News s₁.heap s₁.heap.objs.size h₉ [(T', ({ cls := .type "tuple", data := .seq #[.bytes b tb, .int (e : Int) te] } : Obj))] := fun q hq => by
                rcases List.mem_cons.mp hq with rfl | hq
                · exact N10 _ (hXZ _ hTX)
                · exact nomatch hq
              clear N10
              refine wpC_execs_cons ?_
              refine wpC_If ?_
              refine wpC_of ?_
              walk_at "c_walkd"
              refine wpC_execs_cons ?_
              refine wpC_Assign_Name ?_
              refine wpC_Call_Name ?_
              walk_at "c_walkd"
              walk_at "c_call"
              walk_at "c_walkd"
              refine wpC_call ?_
              rename Fr _ _ _ _ => FZ
              rename News _ _ _ _ => NZ
              have hq13 := (parse_okc hp).2
              k_dflt refine' qo_K K0 FZ KX NZ T ?hck ?hdp hbq ?hz ?hok
              case hck => exact rfl
              case hdp => decide
              case hz => omega
              case hok =>
                intro b2 tb2 h' tk' hb2 F' N'
                obtain ⟨ls, hls⟩ : ∃ ls, quoteL q = ls := ⟨_, rfl⟩
                have hlz : ls.length ≤ 30 := by
                  rw [← hls]
                  unfold quoteL
                  have z := flat_size q
                  simp only [List.length_cons, List.length_append, List.length_nil]
                  omega
                have hagain : parse (ls ++ [120]) 0 = .ok (q, ls.length) := hls ▸ parse_again (parse_okc hp).1 [120]
                rw [hls] at hb2
                clear hls
                dsimp only
                refine wpC_of ?_
                walk_at "c_walkd"
                refine wpC_execs_cons ?_
                refine wpC_Return ?_
                refine wpC_Compare1 ?_
                refine wpC_Call_Name ?_
                walk_at "c_walkd"
                walk_at "c_call"
                walk_at "c_walkd"
                refine wpC_call ?_
                rename KBw.bInts (_ ++ _) = _ => happ
                replace happ : KBw.bInts (b2 ++ #[120]) = ls ++ [120] := happ
                rename Fr _ _ _ _ => FZ
                rename News _ _ _ _ => NZ
                have hl1 : (ls ++ [120]).length = ls.length + 1 := by simp
                k_dflt refine' heard_K K0 FZ KX NZ T KX T ?hck ?hdp happ ?hz ?hk0 ?hk1 ?hok ?hno
                case hck => exact rfl
                case hdp => decide
                case hz => omega
                case hk0 => omega
                case hk1 => omega
                case hno =>
                  intro e' hp'
                  replace hp' := hagain.symm.trans hp'
                  cases hp'
                case hok =>
                  intro q' e' hp' T2 b3 tb3 te3 h' tk' hbq3 F' N'
                  replace hp' := hagain.symm.trans hp'
                  cases hp'
                  obtain rfl : b = b3 := ints_inj (hbq.trans hbq3.symm)
                  dsimp only
                  iterate 16
                    walk1
                    try dsimp only
                  rename News _ _ _ _ => NY
                  refine tup_eq_same (NY _ (.tail _ (.head _))).1 (NY _ (.head _)).1 (by ke_room) ?_
                  try dsimp only
                  wrow_close
end Mine
end
theorem PySem.Challenge.cw_or0055_01_holds : PySem.Challenge.rw_or0055_01.Holds :=
  Mine.law_holds
