import PyProof.Rows.All
import Wide.All
import OpenK.AllK
import Wide.FinOn
import Lean
import PySem.Challenge.RW_xm0437_01
open PySem PySem.W PyProof.Rows
set_option Elab.async false
set_option maxRecDepth 100000
set_option maxHeartbeats 8000000
namespace Mine
open_top hd for PySem.Challenge.rw_xm0437_01
end Mine
section
theorem Mine.resetBase : True := by
  k_with_none
  w_top off
  trivial
open PySem PySem.W PyProof.Rows PySem.Calls
set_option Elab.async false
set_option maxRecDepth 100000
set_option maxHeartbeats 8000000
namespace Mine
/-- what a call of the def at `f` hands back, whatever frame calls it: the ledger grows by `tl`, `R` says of the answer and of `tl` -/
def Tell (w : World) (f : Addr) (own : List (Addr × Obj)) (args : List Value) (depth units : Nat) (R : Value → List (Addr × Obj) → Prop) : Prop :=
  ∀ (mean : ExcName → Option Value) (mg mb : PySem.Str → Option Value) (dp un : Nat) (gd : Option (List Code)) (cn : PySem.Str) (cs : Scope) (a : Addr) (ccd : Value) (cl : List (PySem.Str × Addr)) (outer : List Env) (A₀ : Around) (base h₀ : Heap) (L : Addr) (m : PySem.Str → Option Value) (s : Shared)
    (Q E : Value → Shared → Prop),
    Below A₀ base outer h₀ → Fr h₀ L s.heap m → (Mine.hd.heap_39 w.params).In h₀ → News h₀ L s.heap own → Top Mine.hd.view_39 (looseW Mine.hd.view_39 []) mean mg mb h₀ → cs.kind = .function →
    dp + depth < recursionLimit → un + units < cLine →
    (∀ r tl h' tk', Fr h₀ L h' m → News h₀ L h' (tl ++ own) → (∀ p ∈ own, ∀ q ∈ tl, p.1 < q.1) → R r tl → Q r { s with heap := h', toks := tk' }) →
    wpAny (model PySem.Challenge.rw_xm0437_01.row.prog w) (ktrTop dp un gd cn cs L a ccd cl outer) (call (.ref f) args) Q E s

theorem news_cons {h₀ h : Heap} {L : Addr} {p : Addr × Obj} {own : List (Addr × Obj)} (N : News h₀ L h own) (hm : p ∈ own) : News h₀ L h (p :: own) := fun q hq => by
  rcases List.mem_cons.mp hq with rfl | hq
  · exact N _ hm
  · exact N _ hq
theorem news_sub {h₀ h : Heap} {L : Addr} {l l' : List (Addr × Obj)} (N : News h₀ L h l) (hs : ∀ p ∈ l', p ∈ l) : News h₀ L h l' := fun p hp => N p (hs p hp)


theorem tell_ref {h₀ : Heap} {L : Addr} {m : PySem.Str → Option Value} {own news : List (Addr × Obj)} {s : Shared} {Q : Value → Shared → Prop} {R : Value → List (Addr × Obj) → Prop} {D : Addr} {o : Obj} {h' : Heap} {tk' : Nat}
    (hret : ∀ r tl h' tk', Fr h₀ L h' m → News h₀ L h' (tl ++ own) → (∀ p ∈ own, ∀ q ∈ tl, p.1 < q.1) → R r tl → Q r { s with heap := h', toks := tk' })
    (F : Fr h₀ L h' m) (N : News h₀ L h' news) (hD : (D, o) ∈ news) (ho : ∀ p ∈ own, p ∈ news) (hlt : AllLt D own) (hR : R (.ref D) [(D, o)]) : Q (.ref D) { s with heap := h', toks := tk' } := by
  refine hret _ [(D, o)] _ _ F (news_sub N fun p hp => ?_) (fun p hp q hq => ?_) hR
  · rcases List.mem_cons.mp hp with rfl | hp
    · exact hD
    · exact ho p hp
  · rw [List.mem_singleton.mp hq]
    exact kst_ltOf hlt p hp
theorem tell_plain {h₀ : Heap} {L : Addr} {m : PySem.Str → Option Value} {own news : List (Addr × Obj)} {s : Shared} {Q : Value → Shared → Prop} {R : Value → List (Addr × Obj) → Prop} {v : Value} {h' : Heap} {tk' : Nat}
    (hret : ∀ r tl h' tk', Fr h₀ L h' m → News h₀ L h' (tl ++ own) → (∀ p ∈ own, ∀ q ∈ tl, p.1 < q.1) → R r tl → Q r { s with heap := h', toks := tk' })
    (F : Fr h₀ L h' m) (N : News h₀ L h' news) (ho : ∀ p ∈ own, p ∈ news) (hR : R v []) : Q v { s with heap := h', toks := tk' } :=
  hret _ [] _ _ F (news_sub N ho) (fun _ _ _ hq => nomatch hq) hR
theorem tell_two {h₀ : Heap} {L : Addr} {m : PySem.Str → Option Value} {own news : List (Addr × Obj)} {s : Shared} {Q : Value → Shared → Prop} {R : Value → List (Addr × Obj) → Prop} {D D2 : Addr} {o o2 : Obj} {h' : Heap} {tk' : Nat}
    (hret : ∀ r tl h' tk', Fr h₀ L h' m → News h₀ L h' (tl ++ own) → (∀ p ∈ own, ∀ q ∈ tl, p.1 < q.1) → R r tl → Q r { s with heap := h', toks := tk' })
    (F : Fr h₀ L h' m) (N : News h₀ L h' news) (hD : (D, o) ∈ news) (hD2 : (D2, o2) ∈ news) (ho : ∀ p ∈ own, p ∈ news) (hlt : AllLt D own) (hlt2 : AllLt D2 own) (hR : R (.ref D) [(D, o), (D2, o2)]) : Q (.ref D) { s with heap := h', toks := tk' } := by
  refine hret _ [(D, o), (D2, o2)] _ _ F (news_sub N fun p hp => ?_) (fun p hp q hq => ?_) hR
  · rcases List.mem_cons.mp hp with rfl | hp
    · exact hD
    · rcases List.mem_cons.mp hp with rfl | hp
      · exact hD2
      · exact ho p hp
  · rcases List.mem_cons.mp hq with rfl | hq
    · exact kst_ltOf hlt p hp
    · rw [List.mem_singleton.mp hq]
      exact kst_ltOf hlt2 p hp

/-- a number that is not below nought: the tuple of False and its limbs -/
abbrev numO (l : Addr) : Obj := { cls := .type "tuple", data := .seq #[.bool false, .ref l] }

abbrev OutL (spec : List Int) (r : Value) (tl : List (Addr × Obj)) : Prop := ∃ (l' : Addr) (vs' : List Value) (n' : Nat), r = .ref l' ∧ tl = [(l', listOf vs'.toArray n')] ∧ IntsAre vs' spec
abbrev OutN (spec : List Int) (r : Value) (tl : List (Addr × Obj)) : Prop := ∃ (t' l' : Addr) (vs' : List Value) (n' : Nat), r = .ref t' ∧ tl = [(t', numO l'), (l', listOf vs'.toArray n')] ∧ IntsAre vs' spec
abbrev OutI (spec : Int) (r : Value) (tl : List (Addr × Obj)) : Prop := ∃ (t : Tok), r = .int spec t ∧ tl = []

section
variable {w : World} {f : Addr} {own : List (Addr × Obj)} {args : List Value} {depth units : Nat} {mean : ExcName → Option Value} {mg mb : PySem.Str → Option Value} {dp un : Nat} {gd : Option (List Code)} {cn : PySem.Str} {cs : Scope} {a : Addr} {ccd : Value} {cl : List (PySem.Str × Addr)} {outer : List Env} {A₀ : Around} {base h₀ : Heap} {L : Addr} {m : PySem.Str → Option Value} {s : Shared}
    {Q E : Value → Shared → Prop}
theorem use_list {spec : List Int} (B : Below A₀ base outer h₀) (F : Fr h₀ L s.heap m) (X : (Mine.hd.heap_39 w.params).In h₀) (N : News h₀ L s.heap own) (T : Top Mine.hd.view_39 (looseW Mine.hd.view_39 []) mean mg mb h₀) (hk : cs.kind = .function)
    (C : Tell w f own args depth units (OutL spec)) (hd : dp + depth < recursionLimit) (hu : un + units < cLine)
    (ret : ∀ l' vs' n' h' tk', Fr h₀ L h' m → News h₀ L h' ((l', listOf vs'.toArray n') :: own) → (∀ p ∈ own, p.1 < l') → IntsAre vs' spec → Q (.ref l') { s with heap := h', toks := tk' }) :
    wpAny (model PySem.Challenge.rw_xm0437_01.row.prog w) (ktrTop dp un gd cn cs L a ccd cl outer) (call (.ref f) args) Q E s :=
  C _ _ _ _ _ _ _ _ _ _ _ _ _ _ _ _ _ _ _ _ B F X N T hk hd hu fun _ _ h' tk' F' N' hlt ⟨l', vs', n', e1, e2, hI⟩ => by
    subst e1 e2
    exact ret l' vs' n' h' tk' F' N' (fun p hp => hlt p hp _ (.head _)) hI
theorem use_num {spec : List Int} (B : Below A₀ base outer h₀) (F : Fr h₀ L s.heap m) (X : (Mine.hd.heap_39 w.params).In h₀) (N : News h₀ L s.heap own) (T : Top Mine.hd.view_39 (looseW Mine.hd.view_39 []) mean mg mb h₀) (hk : cs.kind = .function)
    (C : Tell w f own args depth units (OutN spec)) (hd : dp + depth < recursionLimit) (hu : un + units < cLine)
    (ret : ∀ t' l' vs' n' h' tk', Fr h₀ L h' m → News h₀ L h' ((t', numO l') :: (l', listOf vs'.toArray n') :: own) → (∀ p ∈ own, p.1 < t') → (∀ p ∈ own, p.1 < l') → IntsAre vs' spec → Q (.ref t') { s with heap := h', toks := tk' }) :
    wpAny (model PySem.Challenge.rw_xm0437_01.row.prog w) (ktrTop dp un gd cn cs L a ccd cl outer) (call (.ref f) args) Q E s :=
  C _ _ _ _ _ _ _ _ _ _ _ _ _ _ _ _ _ _ _ _ B F X N T hk hd hu fun _ _ h' tk' F' N' hlt ⟨t', l', vs', n', e1, e2, hI⟩ => by
    subst e1 e2
    exact ret t' l' vs' n' h' tk' F' N' (fun p hp => hlt p hp _ (.head _)) (fun p hp => hlt p hp _ (.tail _ (.head _))) hI
theorem use_int {spec : Int} (B : Below A₀ base outer h₀) (F : Fr h₀ L s.heap m) (X : (Mine.hd.heap_39 w.params).In h₀) (N : News h₀ L s.heap own) (T : Top Mine.hd.view_39 (looseW Mine.hd.view_39 []) mean mg mb h₀) (hk : cs.kind = .function)
    (C : Tell w f own args depth units (OutI spec)) (hd : dp + depth < recursionLimit) (hu : un + units < cLine)
    (ret : ∀ t h' tk', Fr h₀ L h' m → News h₀ L h' own → Q (.int spec t) { s with heap := h', toks := tk' }) :
    wpAny (model PySem.Challenge.rw_xm0437_01.row.prog w) (ktrTop dp un gd cn cs L a ccd cl outer) (call (.ref f) args) Q E s :=
  C _ _ _ _ _ _ _ _ _ _ _ _ _ _ _ _ _ _ _ _ B F X N T hk hd hu fun _ _ h' tk' F' N' _ ⟨t, e1, e2⟩ => by
    subst e1 e2
    exact ret t h' tk' F' N'
end

/-- limbs of b bits -/
def Limbs (b : Int) (ns : List Int) : Prop := ∀ x ∈ ns, 0 ≤ x ∧ x < 2 ^ b.toNat
theorem pow_le {b : Int} (hb : 3 ≤ b ∧ b ≤ 8) : (8 : Int) ≤ 2 ^ b.toNat ∧ (2 : Int) ^ b.toNat ≤ 256 := by
  have h : b = 3 ∨ b = 4 ∨ b = 5 ∨ b = 6 ∨ b = 7 ∨ b = 8 := by omega
  rcases h with rfl | rfl | rfl | rfl | rfl | rfl <;> decide
theorem Limbs.small {b : Int} {ns : List Int} (h : Limbs b ns) (hb : 3 ≤ b ∧ b ≤ 8) : ∀ x ∈ ns, 0 ≤ x ∧ x < 256 := fun x hx => ⟨(h x hx).1, by have := (h x hx).2; have := (pow_le hb).2; omega⟩
theorem Limbs.nil {b : Int} : Limbs b [] := fun _ h => nomatch h
theorem Limbs.sub {b : Int} {l l' : List Int} (h : Limbs b l) (hs : ∀ x ∈ l', x ∈ l) : Limbs b l' := fun x hx => h x (hs x hx)
theorem Limbs.app {b : Int} {l l' : List Int} (h : Limbs b l) (h' : Limbs b l') : Limbs b (l ++ l') := fun x hx => (List.mem_append.mp hx).elim (h x) (h' x)
end Mine
end
section
theorem Mine.resetC1 : True := by
  k_with_none
  w_top off
  trivial
open PySem PySem.W PyProof.Rows PySem.Calls
set_option Elab.async false
set_option maxRecDepth 100000
set_option maxHeartbeats 8000000
namespace Mine
def normL (ns : List Int) : List Int := (ns.reverse.dropWhile (· == 0)).reverse
theorem normL_take (ns : List Int) (k : Nat) (hk : k ≤ ns.length) (hz : ∀ j, k ≤ j → j < ns.length → ns.getD j 0 = 0) (hl : k = 0 ∨ ns.getD (k - 1) 0 ≠ 0) : normL ns = ns.take k := by
  have e : ns = ns.take k ++ ns.drop k := (List.take_append_drop k ns).symm
  have hd : ∀ x ∈ (ns.drop k).reverse, (x == 0) = true := by
    intro x hx
    rw [List.mem_reverse] at hx
    obtain ⟨i, hi, rfl⟩ := List.getElem_of_mem hx
    rw [List.length_drop] at hi
    rw [List.getElem_drop]
    have := hz (k + i) (by omega) (by omega)
    rw [List.getD_eq_getElem?_getD, List.getElem?_eq_getElem (by omega)] at this
    simpa using this
  have hd2 : (ns.drop k).reverse.dropWhile (· == 0) = [] := by
    generalize (ns.drop k).reverse = l at hd
    induction l with
    | nil => rfl
    | cons x r ih =>
      rw [List.dropWhile_cons, if_pos (hd x (.head _))]
      exact ih fun y hy => hd y (.tail _ hy)
  unfold normL
  conv => lhs; rw [e]
  rw [List.reverse_append, List.dropWhile_append, hd2]
  simp only [List.isEmpty_nil, if_true]
  rcases hl with rfl | hl
  · simp
  · by_cases h0 : k = 0
    · subst h0; simp
    · have hne : (ns.take k).reverse ≠ [] := by
        intro q
        have := congrArg List.length q
        simp only [List.length_reverse, List.length_take, List.length_nil] at this
        omega
      obtain ⟨x, r, hx⟩ := List.exists_cons_of_ne_nil hne
      have hxv : x = ns.getD (k - 1) 0 := by
        have h1 : (ns.take k).reverse[0]? = some x := by rw [hx]; rfl
        rw [List.getElem?_reverse (by simp; omega)] at h1
        simp only [List.length_take, Nat.min_eq_left hk, Nat.sub_zero] at h1
        rw [List.getElem?_take_of_lt (by omega)] at h1
        rw [List.getD_eq_getElem?_getD, h1]
        rfl
      rw [hx, List.dropWhile_cons, if_neg (by rw [hxv]; simpa using hl), ← hx, List.reverse_reverse]

theorem normL_mem {ns : List Int} : ∀ x ∈ normL ns, x ∈ ns := fun x hx => by
  unfold normL at hx
  rw [List.mem_reverse] at hx
  exact List.mem_reverse.mp ((List.dropWhile_sublist _).subset hx)
theorem normL_len (ns : List Int) : (normL ns).length ≤ ns.length := by
  unfold normL
  rw [List.length_reverse]
  have := (List.dropWhile_sublist (fun x : Int => x == 0) (l := ns.reverse)).length_le
  rw [List.length_reverse] at this
  exact this

theorem normal_t {w : World} {own : List (Addr × Obj)} {l : Addr} {vs : List Value} {ns : List Int} {n : Nat} (hm : (l, listOf vs.toArray n) ∈ own) (hI : IntsAre vs ns) (hlen : ns.length ≤ 1000) :
    Tell w 46 own [.ref l] 1 8 (OutL (normL ns)) := by
  unfold Tell
  intro mean mg mb dp un gd cn cs a ccd cl outer A₀ base h₀ L m s Q E B F X N T hk hd hu hret
  replace N := news_cons N hm
  revert X; k_fill; intro X
  refine wpAny_call ?_
  k_dflt ktr_enter
  k_steps
  rename_i k t hh tkk b1 b2 b3 b4 b5 D ws h1 F1 N1 hI1 hC1 hL1 l1 kF kN T1 kX
  obtain ⟨_, l1⟩ := l1
  refine tell_ref hret (by k_asm) (by k_asm) (by k_mem) (by intro p hp; simp only [List.mem_cons, hp, or_true]) (by assumption) ⟨_, _, _, rfl, rfl, ?_⟩
  · rw [normL_take ns k.toNat (by omega) ?_ ?_]
    · exact hI1
    · intro j h1 h2
      have h3 := b3 (j + 1 : Int) (by omega) (by omega)
      rw [if_pos (by omega)] at h3
      have e : ((j : Int) + 1 - 1).toNat = j := by omega
      rw [e] at h3
      cases hb : (ns.getD j 0 == 0) with
      | true => exact eq_of_beq hb
      | false => rw [hb] at h3; simp at h3
    · by_cases h0 : 0 < k
      · rw [if_pos h0] at b4
        have e : (k - 1).toNat = k.toNat - 1 := by omega
        rw [e] at b4
        cases hb : (ns.getD (k.toNat - 1) 0 == 0) with
        | true => rw [hb] at b4; simp at b4
        | false => exact .inr (by intro q; rw [q] at hb; simp at hb)
      · exact .inl (by omega)
end Mine
end
section
theorem Mine.resetC2 : True := by
  k_with_none
  w_top off
  trivial
open PySem PySem.W PyProof.Rows PySem.Calls
set_option Elab.async false
set_option maxRecDepth 100000
set_option maxHeartbeats 8000000
namespace Mine
def bitsL (ns : List Int) (b : Int) : Int := if (0 : Int) < ns.length then ((ns.length : Int) - 1) * b + (Builtin.Int.intBits (ns.getD (-1 + (ns.length : Int)).toNat 0) : Nat) else 0
theorem bits_t {w : World} {own : List (Addr × Obj)} {l : Addr} {vs : List Value} {ns : List Int} {n : Nat} {b : Int} {tb : Tok} (hm : (l, listOf vs.toArray n) ∈ own) (hI : IntsAre vs ns) (hlen : ns.length ≤ 1000) (hb : 3 ≤ b ∧ b ≤ 8) :
    Tell w 95 own [.ref l, .int b tb] 1 8 (OutI (bitsL ns b)) := by
  unfold Tell
  intro mean mg mb dp un gd cn cs a ccd cl outer A₀ base h₀ L m s Q E B F X N T hk hd hu hret
  replace N := news_cons N hm
  revert X; k_fill; intro X
  refine wpAny_call ?_
  k_dflt ktr_enter
  k_steps
  · have e : bitsL ns b = ((ns.length : Int) - 1) * b + (Builtin.Int.intBits (ns.getD (-1 + (ns.length : Int)).toNat 0) : Nat) := by unfold bitsL; rw [if_pos (by with_reducible assumption)]
    rw [e] at hret
    exact tell_plain hret (by k_asm) (by k_asm) (by intro p hp; simp only [List.mem_cons, hp, or_true]) ⟨_, rfl, rfl⟩
  · have e : bitsL ns b = 0 := by unfold bitsL; rw [if_neg (by with_reducible assumption)]
    rw [e] at hret
    exact tell_plain hret (by k_asm) (by k_asm) (by intro p hp; simp only [List.mem_cons, hp, or_true]) ⟨_, rfl, rfl⟩
end Mine
end
section
theorem Mine.resetC3 : True := by
  k_with_none
  w_top off
  trivial
open PySem PySem.W PyProof.Rows PySem.Calls
set_option Elab.async false
set_option maxRecDepth 100000
set_option maxHeartbeats 8000000
namespace Mine
theorem fdiv_k {k b : Int} (hb : 3 ≤ b ∧ b ≤ 8) (hk : 0 ≤ k ∧ k ≤ 20000) : 0 ≤ k.fdiv b ∧ k.fdiv b ≤ 20000 := by
  rw [Int.fdiv_eq_ediv_of_nonneg _ (by omega)]
  have := Int.ediv_le_self b hk.1
  exact ⟨Int.ediv_nonneg hk.1 (by omega), by omega⟩
theorem fmod_k {k b : Int} (hb : 3 ≤ b ∧ b ≤ 8) : 0 ≤ k.fmod b ∧ k.fmod b < b := by
  rw [Int.fmod_eq_emod_of_nonneg _ (by omega)]
  exact ⟨Int.emod_nonneg _ (by omega), Int.emod_lt_of_pos _ (by omega)⟩
theorem bitOr_le {x y : Int} (hx : 0 ≤ x) (hy : 0 ≤ y) : 0 ≤ Builtin.bitOr x y ∧ Builtin.bitOr x y ≤ x + y := by
  have h := bitAnd_range x hy
  rw [bitOr_and]
  omega

def shStep (f b : Int) (p : List Int × Int) (x : Int) : List Int × Int :=
  (p.1 ++ [Builtin.bitAnd (Builtin.bitOr p.2 (x * 2 ^ f.toNat)) (1 * 2 ^ b.toNat - 1)], (Builtin.bitOr p.2 (x * 2 ^ f.toNat)).fdiv (2 ^ b.toNat))
def shInit (k b : Int) : List Int := (List.replicate (k.fdiv b).toNat [(0 : Int)]).flatten
def ShInv (k b : Int) (pre : List Int) (carry : Int) (found : List Int) : Prop := pre.foldl (shStep (k.fmod b) b) (shInit k b, 0) = (found, carry) ∧ Limbs b found
def shlL (ns : List Int) (k b : Int) : List Int :=
  if (ns.length : Int) = 0 then [] else
  let p := ns.foldl (shStep (k.fmod b) b) (shInit k b, 0)
  if 0 < p.2 then p.1 ++ [p.2] else p.1

theorem sh_start {k b : Int} (hq : 0 ≤ k.fdiv b) : (0 : Int) ≤ 0 ∧ (0 : Int) < 2 ^ (k.fmod b).toNat ∧ (((List.replicate (k.fdiv b).toNat [(0 : Int)]).flatten.length : Nat) : Int) = k.fdiv b + (([] : List Int).length : Nat) ∧ ShInv k b [] 0 (List.replicate (k.fdiv b).toNat [(0 : Int)]).flatten := by
  refine ⟨Int.le_refl 0, Int.pow_pos (by decide), ?_, rfl, ?_⟩
  · rw [KM.len_rep]
    simp only [List.length_cons, List.length_nil]
    omega
  · intro x hx
    obtain ⟨l, hl, hx⟩ := List.mem_flatten.mp hx
    rw [List.eq_of_mem_replicate hl] at hx
    rw [List.mem_singleton.mp hx]
    exact ⟨Int.le_refl 0, Int.pow_pos (by decide)⟩
theorem sh_turn {k b carry x : Int} {ns pre found : List Int} (hr : Limbs b ns) (hx : x ∈ ns) (h0 : 0 ≤ carry) (h1 : carry < 2 ^ (k.fmod b).toNat) (h2 : (found.length : Int) = k.fdiv b + pre.length) (h3 : ShInv k b pre carry found) :
    0 ≤ (Builtin.bitOr carry (x * 2 ^ (k.fmod b).toNat)).fdiv (2 ^ b.toNat) ∧ (Builtin.bitOr carry (x * 2 ^ (k.fmod b).toNat)).fdiv (2 ^ b.toNat) < 2 ^ (k.fmod b).toNat ∧
    (((found ++ [Builtin.bitAnd (Builtin.bitOr carry (x * 2 ^ (k.fmod b).toNat)) (1 * 2 ^ b.toNat - 1)]).length : Nat) : Int) = k.fdiv b + ((pre ++ [x]).length : Nat) ∧
    ShInv k b (pre ++ [x]) ((Builtin.bitOr carry (x * 2 ^ (k.fmod b).toNat)).fdiv (2 ^ b.toNat)) (found ++ [Builtin.bitAnd (Builtin.bitOr carry (x * 2 ^ (k.fmod b).toNat)) (1 * 2 ^ b.toNat - 1)]) := by
  have hx0 := hr x hx
  have hp : (0 : Int) < 2 ^ (k.fmod b).toNat := Int.pow_pos (by decide)
  have hB : (0 : Int) < 2 ^ b.toNat := Int.pow_pos (by decide)
  have e : ShInv k b (pre ++ [x]) ((Builtin.bitOr carry (x * 2 ^ (k.fmod b).toNat)).fdiv (2 ^ b.toNat)) (found ++ [Builtin.bitAnd (Builtin.bitOr carry (x * 2 ^ (k.fmod b).toNat)) (1 * 2 ^ b.toNat - 1)]) := by
    refine ⟨by rw [List.foldl_append, h3.1]; rfl, fun y hy => ?_⟩
    rcases List.mem_append.mp hy with hy | hy
    · exact h3.2 y hy
    · rw [List.mem_singleton.mp hy]
      have := bitAnd_range (Builtin.bitOr carry (x * 2 ^ (k.fmod b).toNat)) (y := 1 * 2 ^ b.toNat - 1) (by omega)
      omega
  refine ⟨?_, ?_, by simp only [List.length_append, List.length_cons, List.length_nil]; omega, e⟩
  all_goals
    generalize (2 : Int) ^ (k.fmod b).toNat = p at *
    generalize (2 : Int) ^ b.toNat = q at *
    have hxp : 0 ≤ x * p := Int.mul_nonneg hx0.1 (by omega)
    have ho := bitOr_le h0 hxp
    rw [Int.fdiv_eq_ediv_of_nonneg _ (by omega)]
  · exact Int.ediv_nonneg ho.1 (by omega)
  · have h4 : x * p ≤ (q - 1) * p := Int.mul_le_mul_of_nonneg_right (by omega) (by omega)
    rw [Int.sub_mul, Int.one_mul] at h4
    rw [Int.ediv_lt_iff_lt_mul hB, Int.mul_comm p q]
    omega
theorem shlL_limbs {k b : Int} {ns : List Int} (hb : 3 ≤ b ∧ b ≤ 8) (hk : 0 ≤ k) (hr : Limbs b ns) : Limbs b (shlL ns k b) ∧ ((shlL ns k b).length : Int) ≤ k.fdiv b + ns.length + 1 := by
  have hq : 0 ≤ k.fdiv b := by rw [Int.fdiv_eq_ediv_of_nonneg _ (by omega)]; exact Int.ediv_nonneg hk (by omega)
  have hf := fmod_k (k := k) hb
  have all : ∀ (post pre found : List Int) (carry : Int), (∀ x ∈ post, x ∈ ns) → 0 ≤ carry → carry < 2 ^ (k.fmod b).toNat → (found.length : Int) = k.fdiv b + pre.length → ShInv k b pre carry found →
      ∃ found' carry', 0 ≤ carry' ∧ carry' < 2 ^ (k.fmod b).toNat ∧ (found'.length : Int) = k.fdiv b + (pre ++ post).length ∧ ShInv k b (pre ++ post) carry' found' := by
    intro post
    induction post with
    | nil => intro pre found carry _ h0 h1 h2 h3; exact ⟨found, carry, h0, h1, by simpa using h2, by simpa using h3⟩
    | cons x r ih =>
      intro pre found carry hm h0 h1 h2 h3
      obtain ⟨a, c, d, e⟩ := sh_turn hr (hm x (.head _)) h0 h1 h2 h3
      have := ih _ _ _ (fun y hy => hm y (.tail _ hy)) a c d e
      simpa only [List.append_assoc, List.singleton_append] using this
  obtain ⟨a, c, d, e⟩ := sh_start (k := k) hq
  obtain ⟨found, carry, h0, h1, h2, h3⟩ := all ns [] _ _ (fun _ h => h) a c d e
  have hle : (2 : Int) ^ (k.fmod b).toNat ≤ 2 ^ b.toNat := by
    have := Nat.pow_le_pow_right (n := 2) (by decide) (show (k.fmod b).toNat ≤ b.toNat by omega)
    exact_mod_cast this
  unfold shlL
  simp only [List.nil_append] at h2 h3
  rw [h3.1]
  split
  · exact ⟨Limbs.nil, by simp only [List.length_nil]; omega⟩
  · dsimp only
    split
    · refine ⟨h3.2.app fun x hx => ?_, by simp only [List.length_append, List.length_cons, List.length_nil]; omega⟩
      rw [List.mem_singleton.mp hx]
      omega
    · exact ⟨h3.2, by omega⟩

section
variable {prog : Program} {w : World} {A : Around} {E : Value → Shared → Prop} {s : Shared} {Q : Value → Shared → Prop}
theorem lsh_mem {b : Int} {ns : List Int} {x k : Int} {t u : Tok} (hb : 3 ≤ b ∧ b ≤ 8) (hr : Limbs b ns) (hm : x ∈ ns) (h0 : 0 ≤ k) (h1 : k ≤ 7) (h : Q (.int (x * 2 ^ k.toNat) s.toks) { s with toks := s.toks + 1 }) :
    wpAny (model prog w) A (binaryOp .LShift (.int x t) (.int k u)) Q E s :=
  lshift_int_small h0 (by omega) (by have := hr.small hb x hm; omega) h
end
section
local macro_rules | `(tactic| walk_at "binaryOp LShift int int") => `(tactic| (refine lsh_mem (by assumption) (by assumption) (by assumption) (by omega) (by omega) ?_))
theorem shl_t {w : World} {own : List (Addr × Obj)} {l : Addr} {vs : List Value} {ns : List Int} {n : Nat} {b k : Int} {tb tk : Tok} (hm : (l, listOf vs.toArray n) ∈ own) (hI : IntsAre vs ns) (hlen : ns.length ≤ 1000) (hb : 3 ≤ b ∧ b ≤ 8)
   (hk0 : 0 ≤ k ∧ k ≤ 20000) (hr : Limbs b ns) :
    Tell w 81 own [.ref l, .int k tk, .int b tb] 1 8 (OutL (shlL ns k b)) := by
  unfold Tell
  intro mean mg mb dp un gd cn cs a ccd cl outer A₀ base h₀ L m s Q E B F X N T hk hd hu hret
  replace N := news_cons N hm
  revert X; k_fill; intro X
  have hq := fdiv_k hb hk0
  have hf := fmod_k (k := k) hb
  have hf8 : k.fmod b ≤ 7 := by omega
  refine wpAny_call ?_
  k_dflt ktr_enter
  k_with "pyIter ref" => k_state (fun pre carry found => 0 ≤ carry ∧ carry < 2 ^ (k.fmod b).toNat ∧ (found.length : Int) = k.fdiv b + pre.length ∧ ShInv k b pre carry found) "carry" "found"
  k_with "state" => first | exact sh_start (by omega) | exact sh_turn (by assumption) (by assumption) (by assumption) (by assumption) (by assumption) (by assumption)
  k_steps
  · rename_i h0 _ D h1 _ l1 kF kN _ _
    have e : shlL ns k b = [] := by unfold shlL; rw [if_pos h0]
    rw [e] at hret
    obtain ⟨_, l1⟩ := l1
    exact tell_ref hret (by k_asm) (by k_asm) (by k_mem) (by intro p hp; simp only [List.mem_cons, hp, or_true]) (by assumption) ⟨_, _, _, rfl, rfl, .nil⟩
  · rename_i l1 D5 h5 l0 h4 h3 h2 h1 tk1 c tc fv fi fn q0 q1 q2 q3 e1 e2 hpos tk2 hh F1 N1 kF kN T1 kX
    obtain ⟨_, _, _, l1⟩ := l1
    simp only [List.push_toArray] at kN
    have e : shlL ns k b = fi ++ [c] := by
      unfold shlL
      rw [if_neg (by with_reducible assumption), q3.1]
      simp only [hpos, if_true]
    rw [e] at hret
    exact tell_ref hret (by k_asm) (by k_asm) (by k_mem) (by intro p hp; simp only [List.mem_cons, hp, or_true]) l1 ⟨_, _, _, rfl, rfl, IntsAre.append kFacts (.cons _ _ .nil)⟩
  · rename_i l1 D5 h5 l0 h4 h3 h2 h1 tk1 c tc fv fi fn q0 q1 q2 q3 e1 e2 hpos kF kN T1 kX
    obtain ⟨_, _, _, l1⟩ := l1
    have e : shlL ns k b = fi := by
      unfold shlL
      rw [if_neg (by with_reducible assumption), q3.1]
      simp only [hpos, if_false]
    rw [e] at hret
    exact tell_ref hret (by k_asm) (by k_asm) (by k_mem) (by intro p hp; simp only [List.mem_cons, hp, or_true]) l1 ⟨_, _, _, rfl, rfl, kFacts⟩
end
end Mine
end
section
theorem Mine.resetC4 : True := by
  k_with_none
  w_top off
  trivial
open PySem PySem.W PyProof.Rows PySem.Calls
set_option Elab.async false
set_option maxRecDepth 100000
set_option maxHeartbeats 8000000
namespace Mine
def rowL (ns : List Int) (k : Int) : List Int := ns ++ (List.replicate (k - ns.length).toNat [(0 : Int)]).flatten
theorem rowL_limbs {b : Int} {ns : List Int} (h : Limbs b ns) (k : Int) : Limbs b (rowL ns k) := h.app fun x hx => by
  obtain ⟨l, hl, hx⟩ := List.mem_flatten.mp hx
  rw [List.eq_of_mem_replicate hl] at hx
  rw [List.mem_singleton.mp hx]
  exact ⟨Int.le_refl 0, Int.pow_pos (by decide)⟩
theorem rowL_len {ns : List Int} {k : Int} (h : (ns.length : Int) ≤ k) : ((rowL ns k).length : Int) = k := by
  unfold rowL
  rw [List.length_append, KM.len_rep]
  simp only [List.length_cons, List.length_nil]
  omega
theorem rowL_last {ns : List Int} {k : Int} (h : (ns.length : Int) < k) {i : Nat} (hi : ns.length ≤ i) : (rowL ns k).getD i 0 = 0 := by
  unfold rowL
  rw [List.getD_eq_getElem?_getD, List.getElem?_append_right hi]
  rcases Nat.lt_or_ge (i - ns.length) (k - ns.length).toNat with q | q
  · rw [lm_rep_flat_one_get 0 q]; rfl
  · rw [List.getElem?_eq_none]
    · rfl
    · rw [KM.len_rep]
      simp only [List.length_cons, List.length_nil]
      omega
theorem row_t {w : World} {own : List (Addr × Obj)} {t l : Addr} {vs : List Value} {ns : List Int} {n : Nat} {b k : Int} {tb tk : Tok} (hx : (t, numO l) ∈ own) (hm : (l, listOf vs.toArray n) ∈ own) (hI : IntsAre vs ns) (hb : 3 ≤ b ∧ b ≤ 8)
   (hk0 : (ns.length : Int) ≤ k ∧ k ≤ 2000) :
    Tell w 107 own [.ref t, .int k tk, .int b tb] 1 8 (OutL (rowL ns k)) := by
  unfold Tell
  intro mean mg mb dp un gd cn cs a ccd cl outer A₀ base h₀ L m s Q E B F X N T hk hd hu hret
  replace N := news_cons (news_cons N hm) (List.mem_cons_of_mem _ hx)
  revert X; k_fill; intro X
  refine wpAny_call ?_
  k_dflt (refine' code_defC ?k1 ?k2 ?k3 ?k4 ?k5 ?kA ?kF ?kK ?k6 ?k7 ?k8 ?k9 ?kB ?kD ?_ ?c2 ?c3 ?c4; (case kA => exact rfl); (case kF => exact rfl); (case kK => assumption); (case k1 => k_asm); (case k2 => k_asm); (case k3 => k_asm); (case k4 => k_asm); (case k5 => k_asm); (case k6 => k_is); (case k7 => k_is); (case k8 => ktr_room); (case k9 => exact BindsTo.of_eq rfl); (case kB => exact rfl); (case kD => decide +kernel); (case c2 => exact rfl); (case c3 => exact rfl); (case c4 => exact rfl); k_whole; intro g' L' h' tk' cells' FG' F' N' Y' B' X' T' l1; (have l2 := allLt_of (d := L' + 1) (fun p hp => Nat.lt_succ_of_lt (l1 p hp))); (simp only [AllLt] at l2); (have kMk := kstMark); (try k_lt l1); k_cells Y'; (try simp only [List.cons_append, List.nil_append] at N'); (try dsimp only); (try k_lift B'); (try k_fold))
  k_steps
  rename_i D ws h1 F1 N1 hI1 l9 kF kN T1 kX
  obtain ⟨_, _, _, _, _, l9⟩ := l9
  exact tell_ref hret (by k_asm) (by k_asm) (by k_mem) (by intro p hp; simp only [List.mem_cons, hp, or_true]) l9 ⟨_, _, _, rfl, rfl, hI1⟩
end Mine
end
section
theorem Mine.resetC5 : True := by
  k_with_none
  w_top off
  trivial
open PySem PySem.W PyProof.Rows PySem.Calls
set_option Elab.async false
set_option maxRecDepth 100000
set_option maxHeartbeats 8000000
namespace Mine
section
local macro_rules | `(tactic| walk_at "call ref") => `(tactic| (k_here; (with_reducible show wpAny _ _ (call (Value.ref 46) [Value.ref _]) _ _ _); k_dflt (refine' use_list (by k_asm) (by k_asm) (by k_asm) (by k_asm) (by k_asm) (by first | exact rfl | assumption) (normal_t (by k_mem) (by l_ints) (by omega)) (by ktr_room) (by ktr_units) ?_); intro l' vs' n' h' tk' F' N' l1 hI'; (try k_lt l1); (try k_sweep); (try k_fold)))
theorem num_t {w : World} {own : List (Addr × Obj)} {l : Addr} {vs : List Value} {ns : List Int} {n : Nat} {b : Int} {tb : Tok} (hm : (l, listOf vs.toArray n) ∈ own) (hI : IntsAre vs ns) (hlen : ns.length ≤ 1000) (hb : 3 ≤ b ∧ b ≤ 8)
   (hz : ns.getD (-1 + (ns.length : Int)).toNat 0 = 0) :
    Tell w 112 own [.ref l, .int b tb] 2 16 (OutN (normL ns)) := by
  unfold Tell
  intro mean mg mb dp un gd cn cs a ccd cl outer A₀ base h₀ L m s Q E B F X N T hk hd hu hret
  replace N := news_cons N hm
  revert X; k_fill; intro X
  have hz2 : (ns.getD (-1 + (ns.length : Int)).toNat 0).fdiv (2 ^ (b - 1).toNat) = 0 := by rw [hz]; exact Int.zero_fdiv _
  refine wpAny_call ?_
  k_dflt (refine' code_defC ?k1 ?k2 ?k3 ?k4 ?k5 ?kA ?kF ?kK ?k6 ?k7 ?k8 ?k9 ?kB ?kD ?_ ?c2 ?c3 ?c4; (case kA => exact rfl); (case kF => exact rfl); (case kK => assumption); (case k1 => k_asm); (case k2 => k_asm); (case k3 => k_asm); (case k4 => k_asm); (case k5 => k_asm); (case k6 => k_is); (case k7 => k_is); (case k8 => ktr_room); (case k9 => exact BindsTo.of_eq rfl); (case kB => exact rfl); (case kD => decide +kernel); (case c2 => exact rfl); (case c3 => exact rfl); (case c4 => exact rfl); k_whole; intro g' L' h' tk' cells' FG' F' N' Y' B' X' T' l1; (have l2 := allLt_of (d := L' + 1) (fun p hp => Nat.lt_succ_of_lt (l1 p hp))); (simp only [AllLt] at l2); (have kMk := kstMark); (try k_lt l1); k_cells Y'; (try simp only [List.cons_append, List.nil_append] at N'); (try dsimp only); (try k_lift B'); (try k_fold))
  k_steps
  · rename_i l' vs' n' h9 tk9 hI9 l8 D h8 F1 N1 l9 kF kN T1 kX
    obtain ⟨_, _, l8⟩ := l8
    obtain ⟨_, _, _, l9⟩ := l9
    exact tell_two hret (by k_asm) (by k_asm) (by k_mem) (by k_mem) (by intro p hp; simp only [List.mem_cons, hp, or_true]) l9 l8 ⟨_, _, _, _, rfl, rfl, hI9⟩
  · rename_i l' vs' n' h9 tk9 hI9 l8 D h8 F1 N1 l9 kF kN T1 kX
    obtain ⟨_, _, l8⟩ := l8
    obtain ⟨_, _, _, l9⟩ := l9
    exact tell_two hret (by k_asm) (by k_asm) (by k_mem) (by k_mem) (by intro p hp; simp only [List.mem_cons, hp, or_true]) l9 l8 ⟨_, _, _, _, rfl, rfl, hI9⟩
  all_goals w_report
end
end Mine
end
section
theorem Mine.resetZc : True := by
  k_with_none
  w_top off
  trivial
open PySem PySem.W PyProof.Rows PySem.Calls
set_option Elab.async false
set_option maxRecDepth 100000
set_option maxHeartbeats 8000000
namespace Mine
section
variable {prog : Program} {w : World} {A : Around} {E : Value → Shared → Prop} {s : Shared} {h₀ : Heap} {L : Addr} {m : PySem.Str → Option Value} {env : Env}

/-- the zip of two lists, i turns in -/
abbrev ZSt (z TI TO i1 i2 l1 l2 : Addr) (xs ys : Array Value) (i : Nat) (h : Heap) : Prop :=
  IsZip h z TI TO .none ∧ IsPair h TI (.ref i1) (.ref i2) ∧ (∃ a b, IsPair h TO a b) ∧ h.IsListIter i1 l1 i ∧ h.IsListIter i2 l2 i ∧ h.IsList l1 xs ∧ h.IsList l2 ys

theorem ZSt.lt {z TI TO i1 i2 l1 l2 : Addr} {xs ys : Array Value} {i : Nat} {h : Heap} (x : ZSt z TI TO i1 i2 l1 l2 xs ys i h) : ∀ c ∈ [z, TI, TO, i1, i2, l1, l2], c < h.objs.size := by
  obtain ⟨a1, a2, ⟨_, _, a3⟩, ⟨_, a4, _⟩, ⟨_, a5, _⟩, ⟨_, a6, _⟩, ⟨_, a7, _⟩⟩ := x
  intro c hc
  simp only [List.mem_cons, List.not_mem_nil, or_false] at hc
  rcases hc with rfl | rfl | rfl | rfl | rfl | rfl | rfl
  · exact Heap.lt_size a1
  · exact Heap.lt_size a2
  · exact Heap.lt_size a3
  · exact Heap.lt_size a4
  · exact Heap.lt_size a5
  · exact Heap.lt_size a6
  · exact Heap.lt_size a7

theorem ints_at {vs : List Value} {ns : List Int} (h : IntsAre vs ns) : ∀ {i : Nat} {x : Value}, vs[i]? = some x → ∃ n t, x = .int n t ∧ ns[i]? = some n := by
  induction h with
  | nil => intro i x e; simp at e
  | cons n t _ ih =>
    intro i x e
    cases i with
    | zero => exact ⟨n, t, (Option.some.inj e).symm, rfl⟩
    | succ i => exact ih (by simpa using e)

/-- a list comprehension begins: its list lies at the next address, its names' object at the one behind it, all else as it was -/
theorem fresh_block {elt : PySem.Expr} {gens : List Comprehension} {scope : Scope} {cl : List (PySem.Str × Addr)} {pos : Pos} {it : Value} {s₂ : Shared} {RR : Value → Addr → Result → Shared → Prop}
    (hcell : ∀ y ∈ scope.names, y.2 ≠ .cell) (hkind : scope.kind = .function)
    (go : ∀ (h₁ : Heap) (m₁ : PySem.Str → Option Value) (tk : Tok), h₁.Ns (s₂.heap.objs.size + 1) m₁ → h₁.get? s₂.heap.objs.size = some (LCg.lst []) → (∀ c o, s₂.heap.get? c = some o → h₁.get? c = some o) →
      codeAny (model prog w) A (.compStart (.ListComp elt gens scope pos) 0 it (.ref s₂.heap.objs.size) (compEnvC scope cl (s₂.heap.objs.size + 1) env)) (RR (.ref s₂.heap.objs.size) (s₂.heap.objs.size + 1)) { s₂ with heap := h₁, toks := tk }) :
    wpAny (model prog w) A (newList []) (fun acc s₃ => wpAny (model prog w) A (newFunctionEnv scope env.globals cl [] env.qual none .none (some env)) (fun cenv s₄ =>
      codeAny (model prog w) A (.compStart (.ListComp elt gens scope pos) 0 it acc { cenv with scope := relabel scope env }) (RR acc cenv.locals) s₄) E s₃) E s₂ := by
  refine wpAny_newObj_type (wpAny_newFunctionEnv hcell (fun _ q => nomatch q) (fun h₁ n₁ b₁ => ?_) hkind)
  have size1 : (s₂.heap.push (LCg.lst [])).objs.size = s₂.heap.objs.size + 1 := Heap.size_push ..
  have kept : ∀ c o, (s₂.heap.push (LCg.lst [])).get? c = some o → h₁.get? c = some o := fun c o q => b₁.extBut c o (Nat.ne_of_lt (Heap.lt_size q)) (Heap.get?_push_of_some _ q)
  have first := go h₁ _ (s₂.toks + 0) (size1 ▸ n₁) (kept _ _ (Heap.get?_push_size _ rfl)) fun c o q => kept c o (Heap.get?_push_of_some _ q)
  rw [← size1] at first
  exact first

/-- every object off the places of X is as it was -/
def ZOff (X : Addr → Prop) (h h' : Heap) : Prop := ∀ c o, ¬ X c → h.get? c = some o → h'.get? c = some o
theorem ZOff.carry {X : Addr → Prop} {h h' : Heap} {led : List (Addr × Obj)} (k : ZOff X h h') (hb : ∀ c, X c → h₀.get? c = none) (hL : ¬ X L) (hn : ∀ q ∈ led, ¬ X q.1) (F : Fr h₀ L h m) (N : News h₀ L h led) : Fr h₀ L h' m ∧ News h₀ L h' led :=
  ⟨⟨F.ns.at' fun o e => k _ o hL e, fun c o e => k c o (fun x => nomatch (hb c x).symm.trans e) (F.keep c o e), F.above⟩, fun q hq => ⟨k _ _ (hn q hq) (N q hq).1, (N q hq).2⟩⟩
/-- i turns in: the zip stands, the frame and the ledger stand, the list holds the first i values -/
structure ZInv (h₀ : Heap) (L : Addr) (m : PySem.Str → Option Value) (D : Addr) (news : List (Addr × Obj)) (zs : List Int) (Zp : Nat → Heap → Prop) (i : Nat) (h : Heap) (ys : List Value) : Prop where
  at_ : Zp i h
  fr : Fr h₀ L h m
  led : News h₀ L h ((D, LCg.lst ys) :: news)
  own : ∃ m', h.Ns (D + 1) m'
  got : IntsAre ys (zs.take i)

theorem zc_block {elt iter : PySem.Expr} {a b : PySem.Str} {pa pb tp : Pos} {kk : Nat} {scope : Scope} {cl : List (PySem.Str × Addr)} {pos : Pos} {s₂ : Shared} {z TI TO i1 i2 l1 l2 : Addr} {vs1 vs2 : List Value} {ns1 ns2 : List Int} {news : List (Addr × Obj)} {g : Int → Int → Int}
    {RR : Value → Addr → Result → Shared → Prop}
    (hh : A.handled = none) (D0 : ZipApart z TI TO i1 i2 l1 l2) (hsz : ns1.length ≤ sizeLine) (hI1 : IntsAre vs1 ns1) (hI2 : IntsAre vs2 ns2)
    (hst : ZSt z TI TO i1 i2 l1 l2 vs1.toArray vs2.toArray 0 s₂.heap)
    (hcell : ∀ y ∈ scope.names, y.2 ≠ .cell) (hkind : scope.kind = .function) (hxa : scope.names.lookup a = some .local) (hxb : scope.names.lookup b = some .local) (hab : ¬ a = b)
    (F : Fr h₀ L s₂.heap m) (N : News h₀ L s₂.heap news) (off0 : ∀ c ∈ [z, TO, i1, i2], h₀.get? c = none ∧ c ≠ L ∧ ∀ p ∈ news, p.1 ≠ c)
    (helt : ∀ (C : Addr) (s' : Shared) (m₂ : PySem.Str → Option Value) (x y : Int) (tx ty : Tok) (Q' : Value → Shared → Prop) (E' : Value → Shared → Prop), s'.heap.Ns C m₂ → m₂ a = some (.int x tx) → m₂ b = some (.int y ty) →
      (Q' (.int (g x y) s'.toks) { s' with toks := s'.toks + 1 }) → wpAny (model prog w) A (eval elt (compEnvC scope cl C env)) Q' E' s')
    (hRR : ∀ D C h tk m' ys, Fr h₀ L h m → News h₀ L h ((D, LCg.lst ys) :: news) → (∀ p ∈ news, p.1 < D) → h.Ns C m' → h₀.get? C = none → C ≠ L → C ≠ D → (∀ p ∈ news, p.1 ≠ C) → IntsAre ys (List.zipWith g ns1 ns2) → RR (.ref D) C (.ok .next) { s₂ with heap := h, toks := tk }) :
    wpAny (model prog w) A (newList []) (fun acc s₃ => wpAny (model prog w) A (newFunctionEnv scope env.globals cl [] env.qual none .none (some env)) (fun cenv s₄ =>
      codeAny (model prog w) A (.compStart (.ListComp elt [⟨.Tuple [.Name a pa, .Name b pb] kk tp, iter, [], 0⟩] scope pos) 0 (.ref z) acc { cenv with scope := relabel scope env }) (RR acc cenv.locals) s₄) E s₃) E s₂ := by
  refine fresh_block hcell hkind fun h₁ m₁ tk₁ n₁ e₁ old => ?_
  have low := hst.lt
  have lowN : ∀ q ∈ news, q.1 < s₂.heap.objs.size := fun q hq => Heap.lt_size (N q hq).1
  have lowL : L < s₂.heap.objs.size := F.ns.lt
  generalize s₂.heap.objs.size = D at *
  have unborn : ∀ c, D ≤ c → h₀.get? c = none := fun c hc => Heap.get?_none_of_le (Nat.le_trans F.above (Nat.le_trans (Nat.le_of_lt lowL) hc))
  have inz : ∀ c ∈ [z, TO, i1, i2], c < D := by
    intro c hc
    refine low c ?_
    simp only [List.mem_cons, List.not_mem_nil, or_false] at hc ⊢
    rcases hc with q | q | q | q <;> simp only [q, true_or, or_true]
  let X : Addr → Prop := fun c => c ∈ [z, TO, i1, i2] ∨ c = D + 1
  have hb : ∀ c, X c → h₀.get? c = none := fun c x => x.elim (fun x => (off0 c x).1) fun x => unborn c (x ▸ Nat.le_succ _)
  have hL : ¬ X L := fun x => x.elim (fun x => (off0 L x).2.1 rfl) (Nat.ne_of_lt (Nat.lt_succ_of_lt lowL))
  have hled : ∀ ys, ∀ q ∈ (D, LCg.lst ys) :: news, ¬ X q.1 := by
    intro ys q hq x
    cases hq with
    | head => exact x.elim (fun x => Nat.lt_irrefl _ (inz _ x)) fun x => Nat.succ_ne_self _ x.symm
    | tail _ hq => exact x.elim (fun x => (off0 _ x).2.2 q hq rfl) (Nat.ne_of_lt (Nat.lt_succ_of_lt (lowN q hq)))
  have W := WalksT.zip2 (prog := prog) (w := w) hh z TI TO i1 i2 l1 l2 D0 vs1.toArray vs2.toArray
  rw [show min vs1.toArray.size vs2.toArray.size = (List.zipWith g ns1 ns2).length by rw [List.size_toArray, List.size_toArray, List.length_zipWith, hI1.length, hI2.length]] at W
  have fits : (List.zipWith g ns1 ns2).length ≤ sizeLine := by rw [List.length_zipWith]; exact Nat.le_trans (Nat.min_le_left ..) hsz
  generalize hzs : List.zipWith g ns1 ns2 = zs at *
  have start : ZInv h₀ L m D news zs (ZSt z TI TO i1 i2 l1 l2 vs1.toArray vs2.toArray) 0 h₁ [] :=
    { at_ := W.frame 0 _ _ hst fun c _ o e => old c o e
      fr := F.keeps old
      led := fun q hq => by
        cases hq with
        | head => exact ⟨e₁, Nat.ne_of_gt lowL, unborn D (Nat.le_refl _)⟩
        | tail _ hq => exact ⟨old _ _ (N q hq).1, (N q hq).2⟩
      own := ⟨_, n₁⟩
      got := .nil }
  refine (fun run => codeAny_compStart_list run (W.self 0 _ _ _ start.at_ run)) ?_
  refine kcp_loop (fun k s' => ∃ h tk i ys, s' = { s₂ with heap := h, toks := tk } ∧ k + i = zs.length + 1 ∧ i ≤ zs.length ∧ ZInv h₀ L m D news zs (ZSt z TI TO i1 i2 l1 l2 vs1.toArray vs2.toArray) i h ys)
    (fun k s' inv => ?_) (zs.length + 1) ⟨h₁, tk₁, 0, [], rfl, rfl, Nat.zero_le _, start⟩
  obtain ⟨h, tk, i, ys, rfl, hk, hi, I⟩ := inv
  obtain ⟨mi, ni⟩ := I.own
  have len : ys.length = i := by rw [I.got.length, List.length_take]; omega
  have plain : ((compEnvC scope cl (D + 1) env).scope.kind == ScopeKind.class || (compEnvC scope cl (D + 1) env).scope.kind == ScopeKind.module && (compEnvC scope cl (D + 1) env).locals != (compEnvC scope cl (D + 1) env).globals) = false := by
    rw [show (compEnvC scope cl (D + 1) env).scope.kind = .function from hkind]
    rfl
  have free : D + 1 ∉ [z, TO, i1, i2] := fun x => Nat.lt_irrefl _ (Nat.lt_trans (inz _ x) (Nat.lt_succ_self D))
  rcases Nat.lt_or_eq_of_le hi with more | stop
  · refine W.item i _ _ _ more I.at_ fun T _ h₂ _ two _ tup mid k₂ => W.go _ _ _ i T _ _ _ mid fun h₃ st₃ k₃ => ?_
    obtain ⟨vx, vy, ex, ey, rfl⟩ := two
    obtain ⟨oT, eT, rT⟩ := tup
    obtain ⟨x, tx, rfl, gx⟩ := ints_at hI1 (by simpa using ex)
    obtain ⟨y, ty, rfl, gy⟩ := ints_at hI2 (by simpa using ey)
    have next : zs.take (i + 1) = zs.take i ++ [g x y] := by
      rw [List.take_add_one, ← hzs, List.getElem?_zipWith, gx, gy]
      rfl
    refine kcp_assign (env := compEnvC scope cl (D + 1) env) hh ⟨oT, k₃ _ _ (W.apart i T h₂ mid) eT, rT⟩ (lookup_relabel_local hxa) (lookup_relabel_local hxb) plain (ni.at' fun o e => k₃ _ o free (k₂ _ o free e)) fun h₄ tk₄ n₄ same => ?_
    have moved : ZOff X h h₄ := fun c o n e => same c o (fun q => n (.inr q)) (k₃ c o (fun q => n (.inl q)) (k₂ c o (fun q => n (.inl q)) e))
    obtain ⟨F₄, N₄⟩ := moved.carry hb hL (hled ys) I.fr I.led
    refine helt (D + 1) _ _ x y tx ty _ _ n₄ (by simp [hab]) (by simp) ?_
    refine append_at (N₄ _ (.head _)).1 (fun h₅ same₅ eD => ?_) (Nat.le_trans (by rw [List.size_toArray, len]; exact hi) fits)
    have grown : ZOff (fun c => c = D) h₄ h₅ := fun c o n e => same₅.extBut c o n e
    obtain ⟨F₅, N₅⟩ := grown.carry (led := news) (fun c q => q ▸ unborn D (Nat.le_refl _)) (Nat.ne_of_lt lowL) (fun q hq => Nat.ne_of_lt (lowN q hq)) F₄ fun q hq => N₄ q (.tail _ hq)
    refine ⟨k - 1, by omega, h₅, _, i + 1, ys ++ [.int (g x y) tk₄], rfl, by omega, more, ?_⟩
    exact
      { at_ := W.frame _ _ _ st₃ fun c hc o e => grown c o (Nat.ne_of_lt (low c hc)) (same c o (Nat.ne_of_lt (Nat.lt_succ_of_lt (low c hc))) e)
        fr := F₅
        led := fun q hq => by
          cases hq with
          | head => exact ⟨(LCg.lst_snoc ys _) ▸ eD, Nat.ne_of_gt lowL, unborn D (Nat.le_refl _)⟩
          | tail _ hq => exact N₅ q hq
        own := ⟨_, n₄.sameBut same₅ (Nat.succ_ne_self D)⟩
        got := next ▸ I.got.append (.cons _ _ .nil) }
  · subst stop
    refine W.done _ _ _ I.at_ fun h₂ tk₂ k₂ => ?_
    have moved : ZOff X h h₂ := fun c o n e => k₂ c o (fun q => n (.inl q)) e
    obtain ⟨F₂, N₂⟩ := moved.carry hb hL (hled ys) I.fr I.led
    exact hRR D (D + 1) h₂ tk₂ _ ys F₂ N₂ lowN (ni.at' fun o e => k₂ _ o free e) (unborn _ (Nat.le_succ _)) (Nat.ne_of_gt (Nat.lt_succ_of_lt lowL)) (Nat.succ_ne_self D) (fun q hq => Nat.ne_of_lt (Nat.lt_succ_of_lt (lowN q hq))) (by
      have q := I.got
      rwa [List.take_length] at q)

def ZcSrc (h₀ : Heap) (L : Addr) (m : PySem.Str → Option Value) (g : Int → Int → Int) (A : Around) (Q : Value → Shared → Prop) (xv : Value) (s₁ : Shared) : Prop :=
  ∃ (z TI TO i1 i2 l1 l2 : Addr) (vs1 vs2 : List Value) (ns1 ns2 : List Int) (news : List (Addr × Obj)), xv = .ref z ∧ A.handled = none ∧ ZipApart z TI TO i1 i2 l1 l2 ∧ ns1.length ≤ sizeLine ∧ IntsAre vs1 ns1 ∧ IntsAre vs2 ns2 ∧
    ZSt z TI TO i1 i2 l1 l2 vs1.toArray vs2.toArray 0 s₁.heap ∧ Fr h₀ L s₁.heap m ∧ News h₀ L s₁.heap news ∧ (∀ c ∈ [z, TO, i1, i2], h₀.get? c = none ∧ c ≠ L ∧ ∀ p ∈ news, p.1 ≠ c) ∧
    ∀ D ys h tk, Fr h₀ L h m → News h₀ L h ((D, LCg.lst ys) :: news) → (∀ p ∈ news, p.1 < D) → IntsAre ys (List.zipWith g ns1 ns2) → Q (.ref D) { s₁ with heap := h, toks := tk }

theorem zc_ListComp {elt iter : PySem.Expr} {a b : PySem.Str} {pa pb tp : Pos} {kk : Nat} {scope : Scope} {cl : List (PySem.Str × Addr)} {pos : Pos} {Q : Value → Shared → Prop} (g : Int → Int → Int) (_F₀ : Fr h₀ L s.heap m)
    (hclos : closureFor scope env = pure cl) (hcell : ∀ y ∈ scope.names, y.2 ≠ .cell) (hkind : scope.kind = .function)
    (hnames : ∀ y ∈ scope.names, y.2 = .local → scope.names.lookup y.1 = some .local) (hxa : scope.names.lookup a = some .local) (hxb : scope.names.lookup b = some .local) (hab : ¬ a = b)
    (helt : ∀ (C : Addr) (s' : Shared) (m₂ : PySem.Str → Option Value) (x y : Int) (tx ty : Tok) (Q' : Value → Shared → Prop) (E' : Value → Shared → Prop), s'.heap.Ns C m₂ → m₂ a = some (.int x tx) → m₂ b = some (.int y ty) →
      (Q' (.int (g x y) s'.toks) { s' with toks := s'.toks + 1 }) → wpAny (model prog w) A (eval elt (compEnvC scope cl C env)) Q' E' s')
    (h : wpAny (model prog w) A (eval iter env) (ZcSrc h₀ L m g A Q) E s)
    (hs : ∀ x, foldedSetIterable iter env x = pure x := by intro _; rfl) :
    wpAny (model prog w) A (eval (.ListComp elt [⟨.Tuple [.Name a pa, .Name b pb] kk tp, iter, [], 0⟩] scope pos) env) Q E s := by
  rw [eval_ListComp]
  refine wpAny_comprehension_free (use := none) rfl hs hclos hkind hnames (wpAny_mono h (fun xv s₁ h₁ => ?_) fun _ _ e => e)
  obtain ⟨z, TI, TO, i1, i2, l1, l2, vs1, vs2, ns1, ns2, news, rfl, hh, D0, hsz, hI1, hI2, hst, F, N, off0, fin⟩ := h₁
  refine wpAny_pyIter_zip hst.1 ?_
  refine zc_block (g := g) hh D0 hsz hI1 hI2 hst hcell hkind hxa hxb hab F N off0 helt ?_
  intro D C h tk m' ys F' N' lt hn hC₀ hCL hCD offC hys
  have apart : ∀ q ∈ (D, LCg.lst ys) :: news, ¬ q.1 = C := fun q hq => by
    cases hq with
    | head => exact Ne.symm hCD
    | tail _ hq => exact offC q hq
  refine ⟨m', hn, fun h'' same => ?_⟩
  obtain ⟨F₂, N₂⟩ := (show ZOff (fun c => c = C) h h'' from fun c o n e => same.extBut c o n e).carry (fun c q => q ▸ hC₀) (Ne.symm hCL) apart F' N'
  exact fin D ys h'' tk F₂ N₂ lt hys

theorem zc_zip {l1 l2 : Addr} {vs1 vs2 : List Value} {ns1 ns2 : List Int} {n1 n2 : Nat} {news : List (Addr × Obj)} {g : Int → Int → Int} {Q : Value → Shared → Prop} (hh : A.handled = none) (F : Fr h₀ L s.heap m) (N : News h₀ L s.heap news)
    (h1 : (l1, listOf vs1.toArray n1) ∈ news) (h2 : (l2, listOf vs2.toArray n2) ∈ news) (hI1 : IntsAre vs1 ns1) (hI2 : IntsAre vs2 ns2) (hsz : ns1.length ≤ sizeLine)
    (h : ∀ D ys h' tk, Fr h₀ L h' m → News h₀ L h' ((D, LCg.lst ys) :: news) → (∀ p ∈ news, p.1 < D) → IntsAre ys (List.zipWith g ns1 ns2) → Q (.ref D) { s with heap := h', toks := tk }) :
    wpAny (model prog w) A (call (.type "zip") [.ref l1, .ref l2]) (ZcSrc h₀ L m g A Q) E s := by
  have k1 := (N _ h1).1
  have k2 := (N _ h2).1
  have lt1 := Heap.lt_size k1
  have lt2 := Heap.lt_size k2
  refine call_zip_2 (xs := vs1.toArray) (ys := vs2.toArray) ⟨_, k1, rfl, _, rfl⟩ ⟨_, k2, rfl, _, rfl⟩ fun h' hz hTI hTO hi1 hi2 hsize up => ?_
  have fresh₀ : ∀ a, s.heap.objs.size ≤ a → h₀.get? a = none := fun a ha => by
    cases e : h₀.get? a with
    | none => rfl
    | some o' => exact absurd (Heap.lt_size (F.keep a o' e)) (Nat.not_lt.mpr ha)
  have hL : L < s.heap.objs.size := F.ns.lt
  have ge : ∀ c ∈ [s.heap.objs.size + 4, s.heap.objs.size + 3, s.heap.objs.size, s.heap.objs.size + 1], s.heap.objs.size ≤ c := by
    intro c hc
    simp only [List.mem_cons, List.not_mem_nil, or_false] at hc
    rcases hc with rfl | rfl | rfl | rfl <;> omega
  have hl1 : h'.IsList l1 vs1.toArray := ⟨_, up _ _ k1, rfl, _, rfl⟩
  have hl2 : h'.IsList l2 vs2.toArray := ⟨_, up _ _ k2, rfl, _, rfl⟩
  refine ⟨_, _, _, _, _, l1, l2, vs1, vs2, ns1, ns2, news, rfl, hh, ?_, hsz, hI1, hI2, ⟨hz, hTI, ⟨_, _, hTO⟩, hi1, hi2, hl1, hl2⟩, F.keeps up, fun p hp => ⟨up _ _ (N p hp).1, (N p hp).2⟩, fun c hc => ⟨fresh₀ c (ge c hc), Nat.ne_of_gt (Nat.lt_of_lt_of_le hL (ge c hc)), fun p hp => Nat.ne_of_lt (Nat.lt_of_lt_of_le (Heap.lt_size (N p hp).1) (ge c hc))⟩, fun D ys h'' tk F' N' lt hys => h D ys h'' tk F' N' lt hys⟩
  generalize s.heap.objs.size = k at *
  exact { TIz := Nat.ne_of_lt (by omega), TOz := Nat.ne_of_lt (by omega), i1z := Nat.ne_of_lt (by omega), i2z := Nat.ne_of_lt (by omega), TITO := Nat.ne_of_lt (by omega), TIi1 := Nat.ne_of_gt (by omega), TIi2 := Nat.ne_of_gt (by omega), TOi1 := Nat.ne_of_gt (by omega), TOi2 := Nat.ne_of_gt (by omega), i12 := Nat.ne_of_lt (by omega), l1z := Nat.ne_of_lt (Nat.lt_of_lt_of_le lt1 (by omega)), l1TO := Nat.ne_of_lt (Nat.lt_of_lt_of_le lt1 (by omega)), l1i1 := Nat.ne_of_lt lt1, l1i2 := Nat.ne_of_lt (Nat.lt_of_lt_of_le lt1 (by omega)), l2z := Nat.ne_of_lt (Nat.lt_of_lt_of_le lt2 (by omega)), l2TO := Nat.ne_of_lt (Nat.lt_of_lt_of_le lt2 (by omega)), l2i1 := Nat.ne_of_lt lt2, l2i2 := Nat.ne_of_lt (Nat.lt_of_lt_of_le lt2 (by omega)) }

/-- the element of the comprehension: one ^ other -/
theorem zc_xor {a b : PySem.Str} {pa pb pp : Pos} {scope : Scope} {cl : List (PySem.Str × Addr)}
    (ha : ∀ C, (compEnvC scope cl C env).kindOf a = some .local) (hb : ∀ C, (compEnvC scope cl C env).kindOf b = some .local) (hk : ∀ C, (compEnvC scope cl C env).scope.kind = .function) (da : (a == ("__debug__" : PySem.Str)) = false) (db : (b == ("__debug__" : PySem.Str)) = false) :
    ∀ (C : Addr) (s' : Shared) (m₂ : PySem.Str → Option Value) (x y : Int) (tx ty : Tok) (Q' : Value → Shared → Prop) (E' : Value → Shared → Prop), s'.heap.Ns C m₂ → m₂ a = some (.int x tx) → m₂ b = some (.int y ty) →
      (Q' (.int (Builtin.bitXor x y) s'.toks) { s' with toks := s'.toks + 1 }) → wpAny (model prog w) A (eval (.BinOp (.Name a pa) .BitXor (.Name b pb) pp) (compEnvC scope cl C env)) Q' E' s' :=
  fun C s' m₂ x y tx ty Q' E' hn e1 e2 h => wpAny_BinOp (ldVarK hn e1 (ldVarK hn e2 (xor_int h) (hk C) (hb C) db) (hk C) (ha C) da)
end
end Mine
end
section
theorem Mine.resetC6 : True := by
  k_with_none
  w_top off
  trivial
open PySem PySem.W PyProof.Rows PySem.Calls
set_option Elab.async false
set_option maxRecDepth 100000
set_option maxHeartbeats 8000000
namespace Mine
theorem rowL_fit {ns : List Int} {k : Int} (h : (ns.length : Int) ≤ k) (hk : k ≤ 2000) : (rowL ns k).length ≤ sizeLine := by
  have := rowL_len h
  rw [sizeLine_eq]
  omega
abbrev xorK (ns1 ns2 : List Int) : Int := (if (ns2.length : Int) > (ns1.length : Int) then (ns2.length : Int) else (ns1.length : Int)) + 1
def xorL (ns1 ns2 : List Int) : List Int := normL (List.zipWith Builtin.bitXor (rowL ns1 (xorK ns1 ns2)) (rowL ns2 (xorK ns1 ns2)))
theorem xorK_ge (ns1 ns2 : List Int) : (ns1.length : Int) < xorK ns1 ns2 ∧ (ns2.length : Int) < xorK ns1 ns2 := by
  unfold xorK
  split <;> omega
theorem xorR_length (ns1 ns2 : List Int) : ((List.zipWith Builtin.bitXor (rowL ns1 (xorK ns1 ns2)) (rowL ns2 (xorK ns1 ns2))).length : Int) = xorK ns1 ns2 := by
  have h := xorK_ge ns1 ns2
  have a := rowL_len (ns := ns1) (k := xorK ns1 ns2) (by omega)
  have b := rowL_len (ns := ns2) (k := xorK ns1 ns2) (by omega)
  rw [List.length_zipWith]
  omega
theorem xorR_len {ns1 ns2 : List Int} (h1 : ns1.length ≤ 500) (h2 : ns2.length ≤ 500) : (List.zipWith Builtin.bitXor (rowL ns1 (xorK ns1 ns2)) (rowL ns2 (xorK ns1 ns2))).length ≤ 1000 := by
  have h := xorR_length ns1 ns2
  have : xorK ns1 ns2 ≤ 501 := by unfold xorK; split <;> omega
  omega
theorem xorR_last (ns1 ns2 : List Int) : (List.zipWith Builtin.bitXor (rowL ns1 (xorK ns1 ns2)) (rowL ns2 (xorK ns1 ns2))).getD (-1 + ((List.zipWith Builtin.bitXor (rowL ns1 (xorK ns1 ns2)) (rowL ns2 (xorK ns1 ns2))).length : Int)).toNat 0 = 0 := by
  rw [xorR_length]
  have h := xorK_ge ns1 ns2
  have a := rowL_len (ns := ns1) (k := xorK ns1 ns2) (by omega)
  have b := rowL_len (ns := ns2) (k := xorK ns1 ns2) (by omega)
  have z1 := rowL_last (ns := ns1) (k := xorK ns1 ns2) (i := (-1 + xorK ns1 ns2).toNat) (by omega) (by omega)
  have z2 := rowL_last (ns := ns2) (k := xorK ns1 ns2) (i := (-1 + xorK ns1 ns2).toNat) (by omega) (by omega)
  generalize hk : xorK ns1 ns2 = k at *
  have i1 : (-1 + k).toNat < (rowL ns1 k).length := by omega
  have i2 : (-1 + k).toNat < (rowL ns2 k).length := by omega
  rw [List.getD_eq_getElem?_getD, List.getElem?_eq_getElem i1] at z1
  rw [List.getD_eq_getElem?_getD, List.getElem?_eq_getElem i2] at z2
  rw [List.getD_eq_getElem?_getD, List.getElem?_zipWith, List.getElem?_eq_getElem i1, List.getElem?_eq_getElem i2]
  simp only [Option.getD_some] at z1 z2 ⊢
  rw [z1, z2]
  decide
theorem bitOr_lt {x y : Int} {k : Nat} (hx : 0 ≤ x) (hy : 0 ≤ y) (hx2 : x < 2 ^ k) (hy2 : y < 2 ^ k) : Builtin.bitOr x y < 2 ^ k := by
  have nn : ∀ z : Int, Builtin.bitNot (Builtin.bitNot z) = z := fun z => by unfold Builtin.bitNot; omega
  have e : Builtin.bitOr x y = ((x.toNat ||| y.toNat : Nat) : Int) := by
    unfold Builtin.bitOr
    rw [bitAnd_nn (by unfold Builtin.bitNot; omega) (by unfold Builtin.bitNot; omega), nn, nn, nn]
  rw [e]
  have p : ((2 ^ k : Nat) : Int) = 2 ^ k := by norm_cast
  have := Nat.or_lt_two_pow (x := x.toNat) (y := y.toNat) (n := k) (by omega) (by omega)
  omega
theorem bitXor_limb {x y : Int} {k : Nat} (hx : 0 ≤ x ∧ x < 2 ^ k) (hy : 0 ≤ y ∧ y < 2 ^ k) : 0 ≤ Builtin.bitXor x y ∧ Builtin.bitXor x y < 2 ^ k := by
  have a := bitAnd_range x hy.1
  have b := bitAnd_range y hx.1
  rw [bitAnd_comm] at b
  have c := bitOr_lt hx.1 hy.1 hx.2 hy.2
  have d := bitXor_and x y
  unfold Builtin.bitXor at d ⊢
  omega
theorem xorL_limbs {b : Int} {ns1 ns2 : List Int} (h1 : Limbs b ns1) (h2 : Limbs b ns2) : Limbs b (xorL ns1 ns2) := fun x hx => by
  have hx := normL_mem x hx
  obtain ⟨i, hi, rfl⟩ := List.getElem_of_mem hx
  rw [List.getElem_zipWith]
  exact bitXor_limb (rowL_limbs h1 _ _ (List.getElem_mem _)) (rowL_limbs h2 _ _ (List.getElem_mem _))
theorem xorL_len (ns1 ns2 : List Int) : ((xorL ns1 ns2).length : Int) ≤ xorK ns1 ns2 := by
  have a := normL_len (List.zipWith Builtin.bitXor (rowL ns1 (xorK ns1 ns2)) (rowL ns2 (xorK ns1 ns2)))
  have b := xorR_length ns1 ns2
  unfold xorL
  omega
section
local macro_rules | `(tactic| walk_at "call ref") => `(tactic| (k_here; (with_reducible show wpAny _ _ (call (Value.ref 107) [Value.ref _, Value.int _ _, Value.int _ _]) _ _ _); k_dflt (refine' use_list (by k_asm) (by k_asm) (by k_asm) (by k_asm) (by k_asm) (by first | exact rfl | assumption) (row_t (by k_mem) (by k_mem) (by l_ints) (by assumption) (by omega)) (by ktr_room) (by ktr_units) ?_); intro l' vs' n' h' tk' F' N' l1 hI'; (try k_lt l1); (try k_sweep); (try k_fold)))
local macro_rules | `(tactic| walk_at "call ref") => `(tactic| (k_here; (with_reducible show wpAny _ _ (call (Value.ref 112) [Value.ref _, Value.int _ _]) _ _ _); k_dflt (refine' use_num (by k_asm) (by k_asm) (by k_asm) (by k_asm) (by k_asm) (by first | exact rfl | assumption) (num_t (by k_mem) (by l_ints) (by exact xorR_len (by assumption) (by assumption)) (by assumption) (by exact xorR_last _ _)) (by ktr_room) (by ktr_units) ?_); intro t' l' vs' n' h' tk' F' N' l1 l2 hI'; (try k_lt l1); (try k_lt l2); (try k_sweep); (try k_fold)))
local macro_rules | `(tactic| walk_at "call ref") => `(tactic| (k_here; (with_reducible show wpAny _ _ (call (Value.ref 119) [Value.ref _, Value.ref _]) _ _ _); refine wpAny_call ?_; k_dflt (refine' code_def (by k_asm) (by k_asm) (by k_asm) (by k_asm) (by k_asm) (by exact rfl) (by exact rfl) (by exact rfl) (by k_is) (by k_is) (by ktr_room) (by exact BindsTo.of_eq rfl) (by exact locs rfl) ?_ (by exact rfl) (by exact rfl) (by exact rfl) (by decide); k_whole; intro g' L' h' FG' F' N' B' X' T'; (try dsimp only); (try k_lift B'); (try k_fold))))
local macro_rules | `(tactic| walk_at "eval ListComp") => `(tactic| (k_here; (rename Fr _ _ _ _ => lF'); k_dflt (refine' zc_ListComp Builtin.bitXor lF' (by exact rfl) (by decide) (by exact rfl) (by decide) (by exact rfl) (by exact rfl) (by decide) (by exact zc_xor (fun _ => rfl) (fun _ => rfl) (fun _ => rfl) (by decide) (by decide)) ?_ (by intro _; rfl); k_whole)))
local macro_rules | `(tactic| walk_at "call type:zip") => `(tactic| (k_here; (with_reducible show wpAny _ _ (call (Value.type _) [Value.ref _, Value.ref _]) _ _ _); k_dflt (refine' zc_zip (by exact rfl) (by k_asm) (by k_asm) (by k_mem) (by k_mem) (by l_ints) (by l_ints) (by exact rowL_fit (by omega) (by omega)) ?_); intro D' ys' h' tk' F' N' l1 hI'; (try k_lt l1); (try k_sweep)))
theorem xor_t {w : World} {own : List (Addr × Obj)} {t1 l1 t2 l2 : Addr} {vs1 vs2 : List Value} {ns1 ns2 : List Int} {n1 n2 : Nat} {b : Int} {tb : Tok} (hx1 : (t1, numO l1) ∈ own) (hm1 : (l1, listOf vs1.toArray n1) ∈ own) (hI1 : IntsAre vs1 ns1)
   (hx2 : (t2, numO l2) ∈ own) (hm2 : (l2, listOf vs2.toArray n2) ∈ own) (hI2 : IntsAre vs2 ns2) (hb : 3 ≤ b ∧ b ≤ 8) (hl1 : ns1.length ≤ 500) (hl2 : ns2.length ≤ 500) :
    Tell w 124 own [.ref t1, .ref t2, .int b tb] 3 24 (OutN (xorL ns1 ns2)) := by
  unfold Tell
  intro mean mg mb dp un gd cn cs a ccd cl outer A₀ base h₀ L m s Q E B F X N T hk hd hu hret
  replace N := news_cons (news_cons (news_cons (news_cons N hm1) (List.mem_cons_of_mem _ hx1)) (List.mem_cons_of_mem _ (List.mem_cons_of_mem _ hm2))) (List.mem_cons_of_mem _ (List.mem_cons_of_mem _ (List.mem_cons_of_mem _ hx2)))
  revert X; k_fill; intro X
  refine wpAny_call ?_
  k_dflt ktr_enter
  k_steps
  rename_i t' l' vs' n' h9 tk9 F9 N9 hI9 la lb kF kN T1 kX
  obtain ⟨_, _, _, _, _, _, _, la⟩ := la
  obtain ⟨_, _, _, _, _, _, _, lb⟩ := lb
  exact tell_two hret (by k_asm) (by k_asm) (by k_mem) (by k_mem) (by intro p hp; simp only [List.mem_cons, hp, or_true]) la lb ⟨_, _, _, _, rfl, rfl, hI9⟩
end
end Mine
end
section
theorem Mine.resetC7 : True := by
  k_with_none
  w_top off
  trivial
open PySem PySem.W PyProof.Rows PySem.Calls
set_option Elab.async false
set_option maxRecDepth 100000
set_option maxHeartbeats 8000000
namespace Mine
section
local macro_rules | `(tactic| walk_at "call ref") => `(tactic| (k_here; (with_reducible show wpAny _ _ (call (Value.ref 81) [Value.ref _, Value.int _ _, Value.int _ _]) _ _ _); k_dflt (refine' use_list (by k_asm) (by k_asm) (by k_asm) (by k_asm) (by k_asm) (by first | exact rfl | assumption) (shl_t (by k_mem) (by l_ints) (by omega) (by assumption) (by assumption) (by assumption)) (by ktr_room) (by ktr_units) ?_); intro l' vs' n' h' tk' F' N' l1 hI'; (try k_lt l1); (try k_sweep); (try k_fold)))
local macro_rules | `(tactic| walk_at "call ref") => `(tactic| (k_here; (with_reducible show wpAny _ _ (call (Value.ref 131) [Value.bool _, Value.ref _]) _ _ _); refine wpAny_call ?_; k_dflt (refine' code_def (by k_asm) (by k_asm) (by k_asm) (by k_asm) (by k_asm) (by exact rfl) (by exact rfl) (by exact rfl) (by k_is) (by k_is) (by ktr_room) (by exact BindsTo.of_eq rfl) (by exact locs rfl) ?_ (by exact rfl) (by exact rfl) (by exact rfl) (by decide); k_whole; intro g' L' h' FG' F' N' B' X' T'; (try dsimp only); (try k_lift B'); (try k_fold))))
theorem shift_t {w : World} {own : List (Addr × Obj)} {t l : Addr} {vs : List Value} {ns : List Int} {n : Nat} {b k : Int} {tb tk : Tok} (hx : (t, numO l) ∈ own) (hm : (l, listOf vs.toArray n) ∈ own) (hI : IntsAre vs ns) (hlen : ns.length ≤ 1000) (hb : 3 ≤ b ∧ b ≤ 8)
   (hk0 : 0 ≤ k ∧ k ≤ 20000) (hr : Limbs b ns) :
    Tell w 138 own [.ref t, .int k tk, .int b tb] 3 24 (OutN (shlL ns k b)) := by
  unfold Tell
  intro mean mg mb dp un gd cn cs a ccd cl outer A₀ base h₀ L m s Q E B F X N T hk hd hu hret
  replace N := news_cons (news_cons N hm) (List.mem_cons_of_mem _ hx)
  revert X; k_fill; intro X
  refine wpAny_call ?_
  k_dflt ktr_enter
  k_steps
  rename_i hI9 l8 g9 L9 h8 FG B9 X9 T9 D h9 F9 N9 l9 kF1 kN1 T2 kX1 kF kN T1 kX
  obtain ⟨_, _, l8⟩ := l8
  obtain ⟨_, _, _, l9⟩ := l9
  exact tell_two hret (by k_asm) (by k_asm) (by k_mem) (by k_mem) (by intro p hp; simp only [List.mem_cons, hp, or_true]) l9 l8 ⟨_, _, _, _, rfl, rfl, hI9⟩
end
end Mine
end
section
theorem Mine.resetC8 : True := by
  k_with_none
  w_top off
  trivial
open PySem PySem.W PyProof.Rows PySem.Calls
set_option Elab.async false
set_option maxRecDepth 100000
set_option maxHeartbeats 8000000
namespace Mine
/-- one turn of the division -/
def parStep (b : Int) (dv : List Int) (c : List Int × List Int) : List Int × List Int :=
  if 0 ≤ bitsL c.2 b - bitsL dv b then (xorL c.1 (shlL [1] (bitsL c.2 b - bitsL dv b) b), xorL c.2 (shlL dv (bitsL c.2 b - bitsL dv b) b)) else c
def parN (b : Int) (dv : List Int) (c : List Int × List Int) : Nat → List Int × List Int
  | 0 => c
  | n + 1 => parStep b dv (parN b dv c n)
theorem bits_lt {x : Int} {k : Nat} (h0 : 0 ≤ x) (h : x < 2 ^ k) : Builtin.Int.intBits x ≤ k := by
  unfold Builtin.Int.intBits
  split
  · exact Nat.zero_le _
  · rename_i hx
    have hx : x ≠ 0 := by simpa using hx
    have p : ((2 ^ k : Nat) : Int) = 2 ^ k := by norm_cast
    have hn : x.natAbs < 2 ^ k := by omega
    have := (Nat.log2_lt (by omega)).mpr hn
    omega
theorem bitsL_le {b : Int} {ns : List Int} (hb : 3 ≤ b ∧ b ≤ 8) (h : Limbs b ns) : 0 ≤ bitsL ns b ∧ bitsL ns b ≤ ns.length * b := by
  unfold bitsL
  split
  · rename_i h0
    have hlt : (-1 + (ns.length : Int)).toNat < ns.length := by omega
    have hx := h _ (List.getElem_mem hlt)
    have e : ns.getD (-1 + (ns.length : Int)).toNat 0 = ns[(-1 + (ns.length : Int)).toNat] := by
      rw [List.getD_eq_getElem?_getD, List.getElem?_eq_getElem hlt]; rfl
    rw [e]
    have hk := bits_lt hx.1 hx.2
    have hp : 0 ≤ ((ns.length : Int) - 1) * b := Int.mul_nonneg (by omega) (by omega)
    rw [Int.sub_mul, Int.one_mul] at hp ⊢
    omega
  · have : 0 ≤ (ns.length : Int) * b := Int.mul_nonneg (by omega) (by omega)
    omega
structure ParOk (b : Int) (i : Nat) (c : List Int × List Int) : Prop where
  f : Limbs b c.1
  n : Limbs b c.2
  fl : c.1.length ≤ 20 + 10 * i
  nl : c.2.length ≤ 20 + 10 * i
theorem parStep_ok {b : Int} {dv : List Int} {c : List Int × List Int} {i : Nat} (hb : 3 ≤ b ∧ b ≤ 8) (hd : Limbs b dv) (hdl : dv.length ≤ 7) (h : ParOk b i c) : ParOk b (i + 1) (parStep b dv c) := by
  unfold parStep
  split
  · rename_i h0
    have hn := bitsL_le hb h.n
    have hv := bitsL_le hb hd
    have one : Limbs b [1] := fun x hx => by
      rw [List.mem_singleton.mp hx]
      have := pow_le hb
      omega
    have q : (bitsL c.2 b - bitsL dv b).fdiv b ≤ c.2.length := by
      rw [Int.fdiv_eq_ediv_of_nonneg _ (by omega)]
      refine Int.le_trans (Int.ediv_le_ediv (by omega) (show bitsL c.2 b - bitsL dv b ≤ (c.2.length : Int) * b by omega)) ?_
      rw [Int.mul_ediv_cancel _ (by omega)]
      exact Int.le_refl _
    obtain ⟨s1, e1⟩ := shlL_limbs (k := bitsL c.2 b - bitsL dv b) hb h0 one
    obtain ⟨s2, e2⟩ := shlL_limbs (k := bitsL c.2 b - bitsL dv b) hb h0 hd
    have x1 := xorL_len c.1 (shlL [1] (bitsL c.2 b - bitsL dv b) b)
    have x2 := xorL_len c.2 (shlL dv (bitsL c.2 b - bitsL dv b) b)
    have fl := h.fl
    have nl := h.nl
    simp only [List.length_cons, List.length_nil] at e1
    refine ⟨xorL_limbs h.f s1, xorL_limbs h.n s2, ?_, ?_⟩
    · unfold xorK at x1
      dsimp only
      split at x1 <;> omega
    · unfold xorK at x2
      dsimp only
      split at x2 <;> omega
  · exact ⟨h.f, h.n, by have := h.fl; omega, by have := h.nl; omega⟩
theorem parN_ok {b : Int} {dv : List Int} {c : List Int × List Int} (hb : 3 ≤ b ∧ b ≤ 8) (hd : Limbs b dv) (hdl : dv.length ≤ 7) (h : ParOk b 0 c) : ∀ i, ParOk b i (parN b dv c i)
  | 0 => h
  | i + 1 => parStep_ok hb hd hdl (parN_ok hb hd hdl h i)

/-- found and number: where they lie, what they hold -/
structure Two where
  tf : Addr
  tn : Addr
  f : List Int
  n : List Int
def NumIn (L : List (Addr × Obj)) (t : Addr) (ns : List Int) : Prop := ∃ (l : Addr) (vs : List Value) (k : Nat), (t, numO l) ∈ L ∧ (l, listOf vs.toArray k) ∈ L ∧ IntsAre vs ns
theorem NumIn.mono {L L' : List (Addr × Obj)} {t : Addr} {ns : List Int} (h : NumIn L t ns) (hs : ∀ p ∈ L, p ∈ L') : NumIn L' t ns := by
  obtain ⟨l, vs, k, a, b, c⟩ := h
  exact ⟨l, vs, k, hs _ a, hs _ b, c⟩
/-- the same, apart from what stood before -/
def NumNew (o : List (Addr × Obj)) (L : List (Addr × Obj)) (t : Addr) (ns : List Int) : Prop := ∃ (l : Addr) (vs : List Value) (k : Nat), (t, numO l) ∈ L ∧ (l, listOf vs.toArray k) ∈ L ∧ IntsAre vs ns ∧ (∀ p ∈ o, p.1 ≠ t) ∧ (∀ p ∈ o, p.1 ≠ l)
def ParFacts (o : List (Addr × Obj)) (L : List (Addr × Obj)) (c : Two) : Prop := NumNew o L c.tf c.f ∧ NumIn L c.tn c.n
def ParP (b : Int) (dv : List Int) (c0 : List Int × List Int) (pre : List Int) (c : Two) : Prop := (c.f, c.n) = parN b dv c0 pre.length
abbrev parPs (c : Two) : List (PySem.Str × Value) := [(PySem.Str.ofString "found", .ref c.tf), (PySem.Str.ofString "number", .ref c.tn)]
abbrev parJ (o : List (Addr × Obj)) (b : Int) (dv : List Int) (c0 : List Int × List Int) (news : List (Addr × Obj)) (m₀ : PySem.Str → Option Value) (pre : List Int) : (PySem.Str → Option Value) → List (Addr × Obj) → Prop :=
  KdS (σ := Two) (fun _ => []) news parPs (ParFacts o) (PySem.Str.ofString "turn") [PySem.Str.ofString "lead"] m₀ (ParP b dv c0) (news.map (·.1)) pre

section
variable {prog : Program} {w : World} {A : Around} {E : Value → Shared → Prop} {s : Shared} {env : Env} {h₀ : Heap} {body : List Stmt} {Q : Flow → Shared → Prop}
theorem par_range {r : Addr} {t₀ u₀ v₀ : Tok} {m₀ : PySem.Str → Option Value} {news : List (Addr × Obj)} (o : List (Addr × Obj)) (b : Int) (dv : List Int) (c : Two) (ld : Addr) (vd : List Value) (kd : Nat) (td : Addr)
    (hh : A.handled = none) (hr : IsRange s.heap r 0 18 1 t₀ u₀ v₀) (F : Fr h₀ env.locals s.heap m₀) (N : News h₀ env.locals s.heap news)
    (hf : NumNew o news c.tf c.f) (hn : NumIn news c.tn c.n) (hd1 : (td, numO ld) ∈ news) (hd2 : (ld, listOf vd.toArray kd) ∈ news) (hm1 : m₀ (PySem.Str.ofString "found") = some (.ref c.tf)) (hm2 : m₀ (PySem.Str.ofString "number") = some (.ref c.tn))
    (turn : ∀ (tf tn lf ln : Addr) (vf vn : List Value) (kf kn : Nat) (nf nn : List Int) (tl own rest : List (Addr × Obj)) (pre : List Int) (k : Int) (t : Tok) (u : PySem.Str → Option Value) (h : Heap) (tk : Tok),
      rest = news ++ (tl ++ own) → pre.length < 18 → KdSep own tl (news.map (·.1)) → (nf, nn) = parN b dv (c.f, c.n) pre.length → ParFacts o (news ++ tl) ⟨tf, tn, nf, nn⟩ → IntsAre vf nf → IntsAre vn nn →
      Fr h₀ env.locals h (fun y => if y = PySem.Str.ofString "turn" then some (.int k t) else kstB (fun z => if [PySem.Str.ofString "lead"].contains z then u z else m₀ z) [(PySem.Str.ofString "found", .ref tf), (PySem.Str.ofString "number", .ref tn)] y) →
      News h₀ env.locals h ((tf, numO lf) :: (lf, listOf vf.toArray kf) :: (tn, numO ln) :: (ln, listOf vn.toArray kn) :: (td, numO ld) :: (ld, listOf vd.toArray kd) :: rest) →
      wpAny (model prog w) A (execs body env) (InvPostG h₀ env.locals (parJ o b dv (c.f, c.n) news m₀ (pre ++ [k])) own { s with heap := h, toks := tk } Q) E { s with heap := h, toks := tk })
    (done : ∀ (tf tn lf ln : Addr) (vf vn : List Value) (kf kn : Nat) (nf nn : List Int) (tl : List (Addr × Obj)) (u : PySem.Str → Option Value) (h : Heap) (tk : Tok), OwnOff tl (news.map (·.1)) → (nf, nn) = parN b dv (c.f, c.n) 18 → IntsAre vf nf → IntsAre vn nn → (∀ p ∈ o, p.1 ≠ tf) → (∀ p ∈ o, p.1 ≠ lf) →
      Fr h₀ env.locals h (fun y => if y = PySem.Str.ofString "turn" then u y else kstB (fun z => if [PySem.Str.ofString "lead"].contains z then u z else m₀ z) [(PySem.Str.ofString "found", .ref tf), (PySem.Str.ofString "number", .ref tn)] y) →
      News h₀ env.locals h ((tf, numO lf) :: (lf, listOf vf.toArray kf) :: (tn, numO ln) :: (ln, listOf vn.toArray kn) :: (news ++ tl)) → Q .next { s with heap := h, toks := tk }) :
    wpAny (model prog w) A (pyIter (.ref r)) (fun it s₂ => LoopAtV prog w A h₀ env (PySem.Str.ofString "turn") body Q E it s₂) E s := by
  refine kd_range (n := 18) (σ := Two) (fun _ => []) news parPs (ParFacts o) [PySem.Str.ofString "lead"] (ParP b dv (c.f, c.n)) (news.map (·.1)) c hh hr (by decide) rfl F N (fun p hp => by simpa using hp) (fun _ => rfl) ⟨by simpa using hf, by simpa using hn⟩ (fun p hp => ?_) rfl ?_ ?_
  · simp only [List.mem_cons, List.not_mem_nil, or_false] at hp
    rcases hp with rfl | rfl
    · exact hm1
    · exact hm2
  · intro c' tl pre k t u h tk own _ hlt hsep _ hF hP F' N'
    obtain ⟨⟨lf, vf, kf, a1, a2, a3, _, _⟩, ⟨ln, vn, kn, b1, b2, b3⟩⟩ := id hF
    have up : ∀ p ∈ news ++ tl, p ∈ news ++ (tl ++ own) := fun p hp => by rw [← List.append_assoc]; exact List.mem_append.mpr (.inl hp)
    have upn : ∀ p ∈ news, p ∈ news ++ (tl ++ own) := fun p hp => List.mem_append.mpr (.inl hp)
    refine turn c'.tf c'.tn lf ln vf vn kf kn c'.f c'.n tl own _ pre k t u h tk rfl hlt hsep hP hF a3 b3 F' (fun p hp => N' p ?_)
    simp only [List.mem_cons] at hp
    rcases hp with rfl | rfl | rfl | rfl | rfl | rfl | hp
    · exact up _ a1
    · exact up _ a2
    · exact up _ b1
    · exact up _ b2
    · exact upn _ hd1
    · exact upn _ hd2
    · exact hp
  · intro c' tl u h tk ht hF hP F' N'
    obtain ⟨⟨lf, vf, kf, a1, a2, a3, a4, a5⟩, ⟨ln, vn, kn, b1, b2, b3⟩⟩ := hF
    unfold ParP at hP
    rw [rangeKs_length] at hP
    refine done c'.tf c'.tn lf ln vf vn kf kn c'.f c'.n tl u h tk ht hP a3 b3 a4 a5 F' (fun p hp => N' p ?_)
    simp only [List.mem_cons] at hp
    rcases hp with rfl | rfl | rfl | rfl | hp
    · exact a1
    · exact a2
    · exact b1
    · exact b2
    · exact hp

theorem par_end {L : Addr} {o : List (Addr × Obj)} {b : Int} {dv : List Int} {c0 : List Int × List Int} {news : List (Addr × Obj)} {m₀ : PySem.Str → Option Value} {pre : List Int} {k : Int} {own tl rest all : List (Addr × Obj)} {s₁ : Shared} {h' : Heap} {tk : Nat} {m' : PySem.Str → Option Value}
    (tf tn : Addr) (nf nn : List Int) (e : rest = news ++ (tl ++ own)) (h0 : KdSep own tl (news.map (·.1))) (F : Fr h₀ L h' m') (N : News h₀ L h' all) (hs : ∀ p ∈ rest, p ∈ all) (hF : ParFacts o (news ++ tl) ⟨tf, tn, nf, nn⟩) (hP : (nf, nn) = parN b dv c0 pre.length) (hc : ¬ 0 ≤ bitsL nn b - bitsL dv b)
    (hk : ∀ p ∈ parPs ⟨tf, tn, nf, nn⟩, m' p.1 = some p.2) (hr : ∀ z, z ≠ PySem.Str.ofString "turn" → (∀ p ∈ parPs ⟨tf, tn, nf, nn⟩, z ≠ p.1) → [PySem.Str.ofString "lead"].contains z = false → m' z = m₀ z) :
    InvEndG h₀ L (parJ o b dv c0 news m₀ (pre ++ [k])) own s₁ { s₁ with heap := h', toks := tk } := by
  subst e
  refine kd_end (σ := Two) ⟨tf, tn, nf, nn⟩ [] (tl := tl) h0 F N (fun p hp => ?_) (fun p hp => hs p ?_) rfl (fun _ h => nomatch h) (fun _ h => nomatch h) hk hr (by simpa using hF) ?_
  · rw [List.nil_append, List.nil_append] at hp
    exact hs p (by rw [← List.append_assoc]; exact List.mem_append.mpr (.inl hp))
  · exact List.mem_append.mpr (.inr (List.mem_append.mpr (.inr hp)))
  · unfold ParP
    rw [List.length_append]
    show (nf, nn) = parStep b dv (parN b dv c0 pre.length)
    rw [← hP]
    unfold parStep
    rw [if_neg hc]
theorem par_end2 {L : Addr} {o : List (Addr × Obj)} {b : Int} {dv : List Int} {c0 : List Int × List Int} {news : List (Addr × Obj)} {m₀ : PySem.Str → Option Value} {pre : List Int} {k : Int} {own tl rest all : List (Addr × Obj)} {s₁ : Shared} {h' : Heap} {tk : Nat} {m' : PySem.Str → Option Value}
    {nf nn : List Int} (tf lf tn ln : Addr) {vf vn : List Value} {kf kn : Nat} (e : rest = news ++ (tl ++ own)) (h0 : KdSep own tl (news.map (·.1))) (F : Fr h₀ L h' m') (N : News h₀ L h' all) (hs : ∀ p ∈ rest, p ∈ all) (hP : (nf, nn) = parN b dv c0 pre.length) (hc : 0 ≤ bitsL nn b - bitsL dv b)
    (a1 : (tf, numO lf) ∈ all) (a2 : (lf, listOf vf.toArray kf) ∈ all) (b1 : (tn, numO ln) ∈ all) (b2 : (ln, listOf vn.toArray kn) ∈ all) {y1 y2 y3 y4 : List (Addr × Obj)} (la1 : ∀ p ∈ y1, p.1 < tf) (la2 : ∀ p ∈ y2, p.1 < lf) (lb1 : ∀ p ∈ y3, p.1 < tn) (lb2 : ∀ p ∈ y4, p.1 < ln)
    (z1 : ∀ p ∈ rest, p ∈ y1) (z2 : ∀ p ∈ rest, p ∈ y2) (z3 : ∀ p ∈ rest, p ∈ y3) (z4 : ∀ p ∈ rest, p ∈ y4) (ho : ∀ p ∈ o, p ∈ news)
    (hI1 : IntsAre vf (xorL nf (shlL [1] (bitsL nn b - bitsL dv b) b))) (hI2 : IntsAre vn (xorL nn (shlL dv (bitsL nn b - bitsL dv b) b)))
    (hk : ∀ p ∈ parPs ⟨tf, tn, xorL nf (shlL [1] (bitsL nn b - bitsL dv b) b), xorL nn (shlL dv (bitsL nn b - bitsL dv b) b)⟩, m' p.1 = some p.2)
    (hr : ∀ z, z ≠ PySem.Str.ofString "turn" → (∀ p ∈ parPs ⟨tf, tn, xorL nf (shlL [1] (bitsL nn b - bitsL dv b) b), xorL nn (shlL dv (bitsL nn b - bitsL dv b) b)⟩, z ≠ p.1) → [PySem.Str.ofString "lead"].contains z = false → m' z = m₀ z) :
    InvEndG h₀ L (parJ o b dv c0 news m₀ (pre ++ [k])) own s₁ { s₁ with heap := h', toks := tk } := by
  subst e
  have lt : ∀ q ∈ [(tf, numO lf), (lf, listOf vf.toArray kf), (tn, numO ln), (ln, listOf vn.toArray kn)], ∀ p ∈ news ++ (tl ++ own), p.1 < q.1 := by
    intro q hq p hp
    simp only [List.mem_cons, List.not_mem_nil, or_false] at hq
    rcases hq with rfl | rfl | rfl | rfl
    · exact la1 p (z1 p hp)
    · exact la2 p (z2 p hp)
    · exact lb1 p (z3 p hp)
    · exact lb2 p (z4 p hp)
  refine kd_end (σ := Two) ⟨tf, tn, xorL nf (shlL [1] (bitsL nn b - bitsL dv b) b), xorL nn (shlL dv (bitsL nn b - bitsL dv b) b)⟩ [(tf, numO lf), (lf, listOf vf.toArray kf), (tn, numO ln), (ln, listOf vn.toArray kn)] (tl := tl) h0 F N (fun p hp => ?_) (fun p hp => hs p ?_) rfl (fun q hq a ha => ?_) (fun q hq p hp => ?_) hk hr ⟨⟨lf, vf, kf, ?_, ?_, hI1, fun p hp => Nat.ne_of_lt (la1 p (z1 p (List.mem_append.mpr (.inl (ho p hp))))), fun p hp => Nat.ne_of_lt (la2 p (z2 p (List.mem_append.mpr (.inl (ho p hp)))))⟩, ⟨ln, vn, kn, ?_, ?_, hI2⟩⟩ ?_
  · rw [List.nil_append] at hp
    rcases List.mem_append.mp hp with hp | hp
    · exact hs p (List.mem_append.mpr (.inl hp))
    · rcases List.mem_append.mp hp with hp | hp
      · simp only [List.mem_cons, List.not_mem_nil, or_false] at hp
        rcases hp with rfl | rfl | rfl | rfl
        · exact a1
        · exact a2
        · exact b1
        · exact b2
      · exact hs p (List.mem_append.mpr (.inr (List.mem_append.mpr (.inl hp))))
  · exact List.mem_append.mpr (.inr (List.mem_append.mpr (.inr hp)))
  · obtain ⟨p, hp, rfl⟩ := List.mem_map.mp ha
    exact Nat.ne_of_lt (lt q hq p (List.mem_append.mpr (.inl hp)))
  · exact Nat.ne_of_lt (lt q hq p (List.mem_append.mpr (.inr (List.mem_append.mpr (.inr hp)))))
  · simp
  · simp
  · simp
  · simp
  · unfold ParP
    rw [List.length_append]
    show _ = parStep b dv (parN b dv c0 pre.length)
    rw [← hP]
    unfold parStep
    rw [if_pos hc]
end
end Mine
end
section
theorem Mine.resetC9 : True := by
  k_with_none
  w_top off
  trivial
open PySem PySem.W PyProof.Rows PySem.Calls
set_option Elab.async false
set_option maxRecDepth 100000
set_option maxHeartbeats 8000000
namespace Mine
theorem lead_fit {b : Int} {nn dv ns : List Int} (hb : 3 ≤ b ∧ b ≤ 8) (hn : Limbs b nn) (hd : Limbs b dv) (hs : Limbs b ns) (hnl : nn.length ≤ 200) (hsl : ns.length ≤ 7) (h0 : 0 ≤ bitsL nn b - bitsL dv b) : (shlL ns (bitsL nn b - bitsL dv b) b).length ≤ 500 := by
  have hn := bitsL_le hb hn
  have hv := bitsL_le hb hd
  have q : (bitsL nn b - bitsL dv b).fdiv b ≤ nn.length := by
    rw [Int.fdiv_eq_ediv_of_nonneg _ (by omega)]
    refine Int.le_trans (Int.ediv_le_ediv (by omega) (show bitsL nn b - bitsL dv b ≤ (nn.length : Int) * b by omega)) ?_
    rw [Int.mul_ediv_cancel _ (by omega)]
    exact Int.le_refl _
  have := (shlL_limbs (k := bitsL nn b - bitsL dv b) hb h0 hs).2
  omega
theorem bits_fit {b : Int} {nn : List Int} (hb : 3 ≤ b ∧ b ≤ 8) (hn : Limbs b nn) (hnl : nn.length ≤ 200) : 0 ≤ bitsL nn b ∧ bitsL nn b ≤ 1600 := by
  have h := bitsL_le hb hn
  have : (nn.length : Int) * b ≤ 200 * 8 := Int.mul_le_mul (by omega) hb.2 (by omega) (by omega)
  omega
theorem limbs_one {b : Int} (hb : 3 ≤ b ∧ b ≤ 8) : Limbs b [1] := fun x hx => by
  rw [List.mem_singleton.mp hx]
  have := pow_le hb
  omega
theorem par_facts {b : Int} {dv nn0 nf nn : List Int} {pre : List Int} (hb : 3 ≤ b ∧ b ≤ 8) (hd : Limbs b dv) (hdl : dv.length ≤ 7) (hn : Limbs b nn0) (hnl : nn0.length ≤ 20) (hlt : pre.length < 18) (hP : (nf, nn) = parN b dv ([], nn0) pre.length) :
    Limbs b nf ∧ Limbs b nn ∧ nf.length ≤ 200 ∧ nn.length ≤ 200 := by
  have h := parN_ok hb hd hdl (c := ([], nn0)) ⟨Limbs.nil, hn, by simp, by simpa using hnl⟩ pre.length
  rw [← hP] at h
  have h1 : nf.length ≤ 20 + 10 * pre.length := h.fl
  have h2 : nn.length ≤ 20 + 10 * pre.length := h.nl
  exact ⟨h.f, h.n, by omega, by omega⟩

/-- found and what is left: the tuple of both -/
abbrev tupO (x y : Addr) : Obj := { cls := .type "tuple", data := .seq #[.ref x, .ref y] }
def TellP (w : World) (own : List (Addr × Obj)) (args : List Value) (c : List Int × List Int) : Prop :=
  ∀ (mean : ExcName → Option Value) (mg mb : PySem.Str → Option Value) (dp un : Nat) (gd : Option (List Code)) (cn : PySem.Str) (cs : Scope) (a : Addr) (ccd : Value) (cl : List (PySem.Str × Addr)) (outer : List Env) (A₀ : Around) (base h₀ : Heap) (L : Addr) (m : PySem.Str → Option Value) (s : Shared)
    (Q E : Value → Shared → Prop),
    Below A₀ base outer h₀ → Fr h₀ L s.heap m → (Mine.hd.heap_39 w.params).In h₀ → News h₀ L s.heap own → Top Mine.hd.view_39 (looseW Mine.hd.view_39 []) mean mg mb h₀ → cs.kind = .function →
    dp + 4 < recursionLimit → un + 32 < cLine →
    (∀ (t' tf lf tn ln : Addr) (vf vn : List Value) (kf kn : Nat) (h' : Heap) (tk' : Tok), Fr h₀ L h' m → News h₀ L h' ((t', tupO tf tn) :: (tf, numO lf) :: (lf, listOf vf.toArray kf) :: (tn, numO ln) :: (ln, listOf vn.toArray kn) :: own) → (∀ p ∈ own, p.1 ≠ tf) → (∀ p ∈ own, p.1 ≠ lf) → IntsAre vf c.1 → IntsAre vn c.2 → Q (.ref t') { s with heap := h', toks := tk' }) →
    wpAny (model PySem.Challenge.rw_xm0437_01.row.prog w) (ktrTop dp un gd cn cs L a ccd cl outer) (call (.ref 185) args) Q E s
section
local macro_rules | `(tactic| walk_at "call ref") => `(tactic| (k_here; (with_reducible show wpAny _ _ (call (Value.ref 95) [Value.ref _, Value.int _ _]) _ _ _); k_dflt (refine' use_int (by k_asm) (by k_asm) (by k_asm) (by k_asm) (by k_asm) (by first | exact rfl | assumption) (bits_t (by k_mem) (by l_ints) (by omega) (by assumption)) (by ktr_room) (by ktr_units) ?_); intro t' h' tk' F' N'; (try k_sweep); (try k_fold)))
local macro_rules | `(tactic| walk_at "call ref") => `(tactic| (k_here; (with_reducible show wpAny _ _ (call (Value.ref 138) [Value.ref _, Value.int _ _, Value.int _ _]) _ _ _); k_dflt (refine' use_num (by k_asm) (by k_asm) (by k_asm) (by k_asm) (by k_asm) (by first | exact rfl | assumption) (shift_t (by k_mem) (by k_mem) (by l_ints) (by first | omega | decide) (by assumption) (by omega) (by assumption)) (by ktr_room) (by ktr_units) ?_); intro t' l' vs' n' h' tk' F' N' l1 l2 hI'; (have l1k := l1); (have l2k := l2); (try k_lt l1); (try k_lt l2); (try k_sweep); (try k_fold)))
local macro_rules | `(tactic| walk_at "call ref") => `(tactic| (k_here; (with_reducible show wpAny _ _ (call (Value.ref 124) [Value.ref _, Value.ref _, Value.int _ _]) _ _ _); k_dflt (refine' use_num (by k_asm) (by k_asm) (by k_asm) (by k_asm) (by k_asm) (by first | exact rfl | assumption) (xor_t (by k_mem) (by k_mem) (by l_ints) (by k_mem) (by k_mem) (by l_ints) (by assumption) (by omega) (by exact lead_fit (by assumption) (by assumption) (by assumption) (by assumption) (by omega) (by first | omega | decide) (by omega))) (by ktr_room) (by ktr_units) ?_); intro t' l' vs' n' h' tk' F' N' l1 l2 hI'; (have l1k := l1); (have l2k := l2); (try k_lt l1); (try k_lt l2); (try k_sweep); (try k_fold)))
theorem parted_t {w : World} {own : List (Addr × Obj)} {t l td ld : Addr} {vs vd : List Value} {ns dv : List Int} {n kd : Nat} {b : Int} {tb : Tok} (hx : (t, numO l) ∈ own) (hm : (l, listOf vs.toArray n) ∈ own) (hI : IntsAre vs ns)
   (hx2 : (td, numO ld) ∈ own) (hm2 : (ld, listOf vd.toArray kd) ∈ own) (hI2 : IntsAre vd dv) (hb : 3 ≤ b ∧ b ≤ 8) (hr : Limbs b ns) (hr2 : Limbs b dv) (hlen : ns.length ≤ 20) (hlen2 : dv.length ≤ 7) :
    TellP w own [.ref t, .ref td, .int b tb] (parN b dv ([], ns) 18) := by
  unfold TellP
  intro mean mg mb dp un gd cn cs a ccd cl outer A₀ base h₀ L m s Q E B F X N T hk hd hu hret
  replace N := news_cons (news_cons (news_cons (news_cons N hm) (List.mem_cons_of_mem _ hx)) (List.mem_cons_of_mem _ (List.mem_cons_of_mem _ hm2))) (List.mem_cons_of_mem _ (List.mem_cons_of_mem _ (List.mem_cons_of_mem _ hx2)))
  revert X; k_fill; intro X
  have one := limbs_one hb
  have hbd := bits_fit hb hr2 (by omega)
  refine wpAny_call ?_
  k_dflt ktr_enter
  have kMk := kstMark
  k_with "pyIter ref" => k_dflt (
    (rename Fr _ _ _ _ => lF'); (rename News _ _ _ _ => lN'); (rename IsRange _ _ _ _ _ _ _ _ => rgX)
    (with_unfolding_all refine' par_range own b dv ⟨_, _, [], ns⟩ ld vd kd td (by rfl) (by exact rgX) lF' lN' ?hf ?hn ?hd1 ?hd2 (by rfl) (by rfl) ?turn ?done)
    case hd1 => k_mem
    case hd2 => k_mem
    case hn => exact ⟨_, _, _, by k_mem, by k_mem, by assumption⟩
    case hf => exact ⟨_, [], _, by k_mem, by k_mem, .nil, by kst_allNe, by kst_allNe⟩
    case' turn =>
      intro tf tn lf ln vf vn kf kn nf nn tl own2 rest pre k t' u h tk hrest hlt hsep hP hF hIf hIn hFr hN
      obtain ⟨hLf, hLn, hlf, hln⟩ := par_facts hb hr2 hlen2 hr hlen hlt hP
      have hbn := bits_fit hb hLn hln
      clear lF' lN'
      try k_fold
    case' done =>
      intro tf tn lf ln vf vn kf kn nf nn tl u h tk hoff hP hIf hIn hNf hNl hFr hN
      clear lF' lN'
      try k_fold)
  k_steps
  · rename_i D h9 F9 N9 l9 kF kN T1 kX
    refine hret D tf lf tn ln vf vn kf kn _ _ (by k_asm) (news_sub kN ?_) hNf hNl (by rw [← hP]; exact hIf) (by rw [← hP]; exact hIn)
    intro p hp
    simp only [List.mem_cons, List.mem_append] at hp ⊢
    rcases hp with h | h | h | h | h | h <;> simp only [h, true_or, or_true]
  · refine' par_end2 (nf := nf) (nn := nn) ?tf ?lf ?tn ?ln hrest hsep ?F ?N ?hs hP ?hc ?a1 ?a2 ?b1 ?b2 ?la1 ?la2 ?lb1 ?lb2 ?z1 ?z2 ?z3 ?z4 ?ho ?hI1 ?hI2 ?hk ?hr
    case F => k_asm
    case N => k_asm
    case hk => kst_all
    case a1 => k_mem
    case b1 => k_mem
    case a2 => k_mem
    case b2 => k_mem
    case la1 => assumption
    case la2 => assumption
    case lb1 => assumption
    case lb2 => assumption
    case hI1 => assumption
    case hI2 => assumption
    case hs => intro p hp; simp only [List.mem_cons, hp, or_true]
    case z1 => intro p hp; simp only [List.mem_cons, hp, or_true]
    case z2 => intro p hp; simp only [List.mem_cons, hp, or_true]
    case z3 => intro p hp; simp only [List.mem_cons, hp, or_true]
    case z4 => intro p hp; simp only [List.mem_cons, hp, or_true]
    case ho => intro p hp; simp only [List.mem_cons, hp, or_true]
    case hc => omega
    case hr =>
      intro z h1 h2 h3
      have f1 : z ≠ PySem.Str.ofString "found" := h2 _ (.head _)
      have f2 : z ≠ PySem.Str.ofString "number" := h2 _ (.tail _ (.head _))
      have f3 : z ≠ PySem.Str.ofString "lead" := by
        intro e
        subst e
        exact absurd h3 (by decide)
      simp only [f1, f2, f3, h1, if_false, kstB, h3, Bool.false_eq_true]
  · refine' par_end tf tn nf nn hrest hsep ?F ?N ?hs hF hP ?hc ?hk ?hr
    case F => k_asm
    case N => k_asm
    case hk => kst_all
    case hs => intro p hp; simp only [List.mem_cons, hp, or_true]
    case hc => omega
    case hr =>
      intro z h1 h2 h3
      have f1 : z ≠ PySem.Str.ofString "found" := h2 _ (.head _)
      have f2 : z ≠ PySem.Str.ofString "number" := h2 _ (.tail _ (.head _))
      have f3 : z ≠ PySem.Str.ofString "lead" := by
        intro e
        subst e
        exact absurd h3 (by decide)
      simp only [f1, f2, f3, h1, if_false, kstB, h3, Bool.false_eq_true]
end
end Mine
end
section
theorem Mine.resetNc : True := by
  k_with_none
  w_top off
  trivial
open PySem PySem.W PyProof.Rows PySem.Calls
set_option Elab.async false
set_option maxRecDepth 100000
set_option maxHeartbeats 8000000
namespace Mine
section
variable {prog : Program} {w : World} {A : Around} {E : Value → Shared → Prop} {s : Shared} {h₀ : Heap} {L : Addr} {m : PySem.Str → Option Value} {env : Env}
/-- what newList [] hands back is the next address: a post may use it -/
theorem at_next {M : Model} {c : Value → Env → Code} {t : Sem Env} {s₂ : Shared} {RR : Value → Addr → Result → Shared → Prop}
    (h : wpAny M A (newList []) (fun acc s₃ => wpAny M A t (fun cenv s₄ => codeAny M A (c acc cenv) (fun r s' => acc = .ref s₂.heap.objs.size → RR acc cenv.locals r s') s₄) E s₃) E s₂) :
    wpAny M A (newList []) (fun acc s₃ => wpAny M A t (fun cenv s₄ => codeAny M A (c acc cenv) (RR acc cenv.locals) s₄) E s₃) E s₂ := by
  have h2 : wpAny M A (newList []) (fun acc s₃ => acc = .ref s₂.heap.objs.size ∧ wpAny M A t (fun cenv s₄ => codeAny M A (c acc cenv) (fun r s' => acc = .ref s₂.heap.objs.size → RR acc cenv.locals r s') s₄) E s₃) E s₂ := fun Γ p hΓ => ⟨rfl, h Γ p hΓ⟩
  exact wpAny_mono h2 (fun _ _ k => wpAny_mono k.2 (fun _ _ k2 => codeAny_mono k2 fun _ _ k3 => k3 k.1) fun _ _ x => x) fun _ _ x => x

/-- what is looked for: ints of a list that are not in another -/
def ncP (ns : List Int) (v : Value) : Bool := match v with | .int k _ => !(ns.any (· == k)) | _ => false
def ncF (a b : Value) : Prop := ∃ k t t', a = .int k t ∧ b = .int k t'
theorem nc_ints {ns : List Int} : ∀ {vs : List Value} {ks : List Int} {ys : List Value}, IntsAre vs ks → Paired ncF (vs.filter (ncP ns)) ys → IntsAre ys (ks.filter fun k => !(ns.any (· == k)))
  | _, _, ys, .nil, h => by
    cases ys with
    | nil => exact .nil
    | cons a b => exact nomatch h
  | _, _, ys, .cons k t h, hp => by
    rw [List.filter_cons] at hp ⊢
    have e : ncP ns (.int k t) = !(ns.any (· == k)) := rfl
    rw [e] at hp
    cases hb : !(ns.any (· == k)) with
    | false =>
      rw [hb] at hp
      rw [if_neg (by decide)] at hp ⊢
      exact nc_ints h hp
    | true =>
      rw [hb] at hp
      rw [if_pos rfl] at hp ⊢
      cases hp with
      | cons h1 h2 =>
        obtain ⟨k', t1, t2, e1, e2⟩ := h1
        cases e1
        subst e2
        exact .cons _ _ (nc_ints h h2)

def NcSrc (h₀ : Heap) (L : Addr) (m : PySem.Str → Option Value) (cc : Addr) (A : Around) (Q : Value → Shared → Prop) (xv : Value) (s₁ : Shared) : Prop :=
  ∃ (r l : Addr) (a b : Int) (n : Nat) (t u v : Tok) (vs : List Value) (ns : List Int) (c : Nat) (oC : Obj) (news : List (Addr × Obj)), xv = .ref r ∧ A.handled = none ∧ IsRange s₁.heap r a b 1 t u v ∧ Builtin.Range.small a b 1 = true ∧ Builtin.Range.rangeSize a b 1 = (n : Int) ∧ n ≤ sizeLine ∧
    Fr h₀ L s₁.heap m ∧ News h₀ L s₁.heap news ∧ (l, listOf vs.toArray c) ∈ news ∧ IntsAre vs ns ∧ (cc, oC) ∈ news ∧ oC.data = .cell (some (.ref l)) ∧
    ∀ D ys c' h tk, Fr h₀ L h m → News h₀ L h ((D, listOf ys.toArray c') :: news) → (∀ p ∈ news, p.1 < D) → IntsAre ys ((rangeKs a n).filter fun k => !(ns.any (· == k))) → Q (.ref D) { s₁ with heap := h, toks := tk }

theorem nc_ListComp {iter : PySem.Expr} {x y : PySem.Str} {pe pt p1 p2 pc : Pos} {scope : Scope} {cl : List (PySem.Str × Addr)} {pos : Pos} {cc : Addr} {Q : Value → Shared → Prop} (_F₀ : Fr h₀ L s.heap m)
    (hclos : closureFor scope env = pure cl) (hcell : ∀ y ∈ scope.names, y.2 ≠ .cell) (hkind : scope.kind = .function)
    (hnames : ∀ y ∈ scope.names, y.2 = .local → scope.names.lookup y.1 = some .local) (hx : scope.names.lookup x = some .local)
    (hk : ∀ C, (compEnvC scope cl C env).scope.kind = .function) (hlx : ∀ C, (compEnvC scope cl C env).kindOf x = some .local) (hly : ∀ C, (compEnvC scope cl C env).kindOf y = some .cell) (hcc : cl.lookup y = some cc)
    (dx : (x == ("__debug__" : PySem.Str)) = false) (dy : (y == ("__debug__" : PySem.Str)) = false)
    (h : wpAny (model prog w) A (eval iter env) (NcSrc h₀ L m cc A Q) E s)
    (hs : ∀ x, foldedSetIterable iter env x = pure x := by intro _; rfl) :
    wpAny (model prog w) A (eval (.ListComp (.Name x pe) [⟨.Name x pt, iter, [.Compare (.Name x p1) [.NotIn] [.Name y p2] pc], 0⟩] scope pos) env) Q E s := by
  rw [eval_ListComp]
  refine wpAny_comprehension_free (use := none) rfl hs hclos hkind hnames (wpAny_mono h (fun xv s₁ h₁ => ?_) fun _ _ e => e)
  obtain ⟨r, l, a, b, n, t, u, v, vs, ns, c, oC, news, rfl, hh, hr, hsmall, hn, hsz, F, N, hl, hI, hc, hd, fin⟩ := h₁
  refine wpAny_pyIter_range hr hsmall ?_
  have kl := (N _ hl).1
  have kc := (N _ hc).1
  have ltl := Heap.lt_size kl
  have ltc := Heap.lt_size kc
  have W : Walks prog w A s₁.heap.objs.size [s₁.heap.objs.size] [s₁.heap.objs.size] n (fun i v => i < n ∧ ∃ t, v = .int (a + i * 1) t)
      (fun i h => IsRangeIter h s₁.heap.objs.size (a + (i : Nat) * 1) ((n : Int) - (i : Nat)) 1) := (Walks.range hh _ a 1 n).bound
  refine at_next (comp_block_walkC (RR := fun acc C r s' => acc = .ref _ → compPost (model prog w) A E none Q acc C r s') W hsz (ncP ns) ncF hcell hkind hx (by show IsRangeIter _ _ _ _ _; rw [hn]; simpa using Heap.get?_push_size _ rfl) ?_ ⟨?_, ?_⟩ ?_)
  · intro b hb
    rw [List.mem_singleton.mp hb]
    show _ < (s₁.heap.push _).objs.size
    rw [Heap.size_push]
    exact Nat.lt_succ_self _
  · rintro C i v s₃ m₃ E' _ ⟨_, tk, rfl⟩ hns hm up _
    have upl := up l _ (fun hm => Nat.ne_of_lt ltl (List.mem_singleton.mp hm)) (Heap.get?_push_of_some _ kl)
    have upc := up cc _ (fun hm => Nat.ne_of_lt ltc (List.mem_singleton.mp hm)) (Heap.get?_push_of_some _ kc)
    refine wpAny_tests_one (wpAny_isTrue_Compare1 (ldVarK hns hm (ldCellK hcc ⟨_, upc, hd⟩ (notin_list_ints ⟨_, upl, rfl, _, rfl⟩ hI (wpAny_truthy_bool ⟨rfl, s₃.heap, s₃.toks, rfl, fun _ _ e => e⟩)) (hk C) (hly C) dy) (hk C) (hlx C) dx) (by rfl))
  · rintro C i v s₃ m₃ E' _ ⟨_, tk, rfl⟩ _ hns hm up _
    exact ldVarK hns hm ⟨⟨_, _, _, rfl, rfl⟩, s₃.heap, s₃.toks, rfl, fun _ _ e => e⟩ (hk C) (hlx C) dx
  · intro D C h' tk m' ys us _ hC hDC hns _ hpl hlen hP hF up e
    have e := Value.ref.inj e
    subst e
    obtain ⟨c', hpl⟩ := hpl
    refine ⟨m', hns, fun h'' hs'' => ?_⟩
    have up₁ : ∀ b o, s₁.heap.get? b = some o → h''.get? b = some o := fun b o e => hs''.extBut b o (fun q => by rw [q] at e; rw [Heap.get?_push_of_some _ e] at hC; cases hC) (up b o (fun hm => Nat.ne_of_lt (Heap.lt_size e) (List.mem_singleton.mp hm)) (Heap.get?_push_of_some _ e))
    have hIs : IntsAre us (rangeKs a n) := by
      refine kll_ints us a n hlen fun j v hj => ?_
      obtain ⟨_, t, e⟩ := hP j v hj
      exact ⟨t, e⟩
    refine fin _ ys.toList c' h'' tk (F.keeps up₁) (fun p hp => ?_) (fun p hp => ?_) (nc_ints hIs hF)
    · rcases List.mem_cons.mp hp with rfl | hp
      · refine ⟨?_, ?_, ?_⟩
        · have := hs''.extBut _ _ hDC hpl
          simpa using this
        · show (s₁.heap.push _).objs.size ≠ L
          rw [Heap.size_push]
          exact Nat.ne_of_gt (Nat.lt_succ_of_lt F.ns.lt)
        · show h₀.get? (s₁.heap.push _).objs.size = none
          rw [Heap.size_push]
          cases e : h₀.get? (s₁.heap.objs.size + 1) with
          | none => rfl
          | some o' => exact absurd (Heap.lt_size (F.keep _ _ e)) (Nat.not_lt.mpr (Nat.le_succ _))
      · exact ⟨up₁ _ _ (N p hp).1, (N p hp).2⟩
    · show p.1 < (s₁.heap.push _).objs.size
      rw [Heap.size_push]
      exact Nat.lt_succ_of_lt (Heap.lt_size (N p hp).1)

theorem nc_range {l cc : Addr} {vs : List Value} {ns : List Int} {c n : Nat} {oC : Obj} {a b : Int} {t u : Tok} {news : List (Addr × Obj)} {Q : Value → Shared → Prop} (hh : A.handled = none) (F : Fr h₀ L s.heap m) (N : News h₀ L s.heap news)
    (hsmall : Builtin.Range.small a b 1 = true) (hn : Builtin.Range.rangeSize a b 1 = (n : Int)) (hsz : n ≤ sizeLine) (hl : (l, listOf vs.toArray c) ∈ news) (hI : IntsAre vs ns) (hc : (cc, oC) ∈ news) (hd : oC.data = .cell (some (.ref l)))
    (h : ∀ D ys c' h tk, Fr h₀ L h m → News h₀ L h ((D, listOf ys.toArray c') :: news) → (∀ p ∈ news, p.1 < D) → IntsAre ys ((rangeKs a n).filter fun k => !(ns.any (· == k))) → Q (.ref D) { s with heap := h, toks := tk }) :
    wpAny (model prog w) A (call (.type "range") [.int a t, .int b u]) (NcSrc h₀ L m cc A Q) E s :=
  range2_rows F N fun _ _ _ _ _ hr F' N' _ => ⟨_, _, _, _, _, _, _, _, _, _, _, _, _, rfl, hh, hr, hsmall, hn, hsz, F', N', hl, hI, hc, hd, fun D ys c' h' tk F'' N'' lt hI' => h D ys c' h' tk F'' N'' lt hI'⟩
end
end Mine
end
section
theorem Mine.resetC10 : True := by
  k_with_none
  w_top off
  trivial
open PySem PySem.W PyProof.Rows PySem.Calls
set_option Elab.async false
set_option maxRecDepth 100000
set_option maxHeartbeats 8000000
namespace Mine
def limbsF : Nat → Int → Int → List Int
  | 0, _, _ => []
  | k + 1, x, b => if 0 < x then x.fmod (2 ^ b.toNat) :: limbsF k (x.fdiv (2 ^ b.toNat)) b else []
def limbsL (x b : Int) : List Int := limbsF 20 x b
structure LimInv (x b number : Int) (found : List Int) : Prop where
  out : ∃ k, number < 8 ^ k ∧ found.length + k ≤ 20 ∧ found ++ limbsF k number b = limbsL x b ∧ Limbs b found
theorem lim_start {x b : Int} (h0 : 0 ≤ x) (h1 : x < 1048576) : 0 ≤ x ∧ x < 1048576 ∧ ([] : List Int).length ≤ 20 ∧ LimInv x b x [] :=
  ⟨h0, h1, by decide, ⟨20, Int.lt_of_lt_of_le h1 (by decide), by decide, rfl, Limbs.nil⟩⟩
theorem lim_facts {b number : Int} (hb : 3 ≤ b ∧ b ≤ 8) (h0 : 0 ≤ number) : 0 ≤ number.fdiv (2 ^ b.toNat) ∧ 8 * number.fdiv (2 ^ b.toNat) ≤ number ∧ 0 ≤ number.fmod (2 ^ b.toNat) ∧ number.fmod (2 ^ b.toNat) < 2 ^ b.toNat := by
  have hp := pow_le hb
  generalize (2 : Int) ^ b.toNat = p at *
  rw [Int.fdiv_eq_ediv_of_nonneg _ (by omega), Int.fmod_eq_emod_of_nonneg _ (by omega)]
  have h1 := Int.ediv_nonneg h0 (show 0 ≤ p by omega)
  refine ⟨h1, ?_, Int.emod_nonneg _ (by omega), Int.emod_lt_of_pos _ (by omega)⟩
  have h2 := Int.mul_ediv_self_le (x := number) (show p ≠ 0 by omega)
  have h3 := Int.mul_le_mul_of_nonneg_right hp.1 h1
  omega
theorem lim_turn {x b number : Int} {found : List Int} (hb : 3 ≤ b ∧ b ≤ 8) (h0 : 0 ≤ number) (h1 : number < 1048576) (hpos : 0 < number) (hI : LimInv x b number found) :
    0 ≤ number.fdiv (2 ^ b.toNat) ∧ number.fdiv (2 ^ b.toNat) < 1048576 ∧ (found ++ [number.fmod (2 ^ b.toNat)]).length ≤ 20 ∧ LimInv x b (number.fdiv (2 ^ b.toNat)) (found ++ [number.fmod (2 ^ b.toNat)]) := by
  obtain ⟨k, a1, a2, a3, a4⟩ := hI.out
  obtain ⟨f1, f2, f3, f4⟩ := lim_facts hb h0
  cases k with
  | zero => simp at a1; omega
  | succ k =>
    have e : (8 : Int) ^ (k + 1) = 8 ^ k * 8 := Int.pow_succ ..
    refine ⟨f1, by omega, by simp only [List.length_append, List.length_cons, List.length_nil]; omega, ⟨k, by omega, by simp only [List.length_append, List.length_cons, List.length_nil]; omega, ?_, a4.app fun y hy => by rw [List.mem_singleton.mp hy]; exact ⟨f3, f4⟩⟩⟩
    rw [← a3]
    show _ = found ++ (if 0 < number then _ else _)
    rw [if_pos hpos, List.append_assoc, List.singleton_append]
theorem lim_less {b number : Int} (hb : 3 ≤ b ∧ b ≤ 8) (h0 : 0 < number) : (number.fdiv (2 ^ b.toNat)).toNat < number.toNat := by
  have := lim_facts hb (Int.le_of_lt h0)
  omega
theorem lim_end {x b number : Int} {found : List Int} (h0 : ¬ 0 < number) (hI : LimInv x b number found) : found = limbsL x b ∧ Limbs b found := by
  obtain ⟨k, _, _, a3, a4⟩ := hI.out
  refine ⟨?_, a4⟩
  rw [← a3]
  cases k with
  | zero => exact (List.append_nil _).symm
  | succ k =>
    unfold limbsF
    rw [if_neg h0, List.append_nil]
theorem limbs_t {w : World} {own : List (Addr × Obj)} {x b : Int} {tx tb : Tok} (hb : 3 ≤ b ∧ b ≤ 8) (h0 : 0 ≤ x ∧ x < 1048576) :
    Tell w 152 own [.int x tx, .int b tb] 1 8 (OutL (limbsL x b)) := by
  unfold Tell
  intro mean mg mb dp un gd cn cs a ccd cl outer A₀ base h₀ L m s Q E B F X N T hk hd hu hret
  revert X; k_fill; intro X
  refine wpAny_call ?_
  k_dflt ktr_enter
  have kMk := kstMark
  have hI0 : IntsAre [] [] := .nil
  k_with "exec While Compare cons nil" => k_while (fun _ number found => 0 ≤ number ∧ number < 1048576 ∧ found.length ≤ 20 ∧ LimInv x b number found) (fun _ number _ => number.toNat) "number" "found"
  k_with "state" => first | exact lim_start h0.1 h0.2 | exact lim_turn hb (by assumption) (by assumption) (by assumption) (by assumption)
  k_with "measure" => exact lim_less hb (by assumption)
  k_steps
  rename_i l' h1 l1 h2 tk1 nn tnn vv ff cc q0 q1 q2 q3 e1 hneg kF kN T1 kX
  obtain ⟨e, _⟩ := lim_end hneg q3
  exact tell_ref hret (by k_asm) (by k_asm) (by k_mem) (by intro p hp; simp only [List.mem_cons, hp, or_true]) (allLt_of l1) ⟨_, _, _, rfl, rfl, e ▸ kFacts⟩
theorem limbsF_limbs {b : Int} (hb : 3 ≤ b ∧ b ≤ 8) : ∀ (k : Nat) (x : Int), 0 ≤ x → Limbs b (limbsF k x b)
  | 0, _, _ => Limbs.nil
  | k + 1, x, h0 => by
    unfold limbsF
    split
    · obtain ⟨f1, f2, f3, f4⟩ := lim_facts hb h0
      intro y hy
      rcases List.mem_cons.mp hy with rfl | hy
      · exact ⟨f3, f4⟩
      · exact limbsF_limbs hb k _ f1 y hy
    · exact Limbs.nil
theorem limbsF_len {b : Int} (hb : 3 ≤ b ∧ b ≤ 8) : ∀ (k : Nat) (x : Int) (j : Nat), 0 ≤ x → x < 8 ^ j → (limbsF k x b).length ≤ j
  | 0, _, _, _, _ => Nat.zero_le _
  | k + 1, x, j, h0, h1 => by
    unfold limbsF
    split
    · rename_i hp
      obtain ⟨f1, f2, f3, f4⟩ := lim_facts hb h0
      cases j with
      | zero => simp at h1; omega
      | succ j =>
        have e : (8 : Int) ^ (j + 1) = 8 ^ j * 8 := Int.pow_succ ..
        have := limbsF_len hb k (x.fdiv (2 ^ b.toNat)) j f1 (by omega)
        rw [List.length_cons]
        omega
    · exact Nat.zero_le _
section
local macro_rules | `(tactic| walk_at "call ref") => `(tactic| (k_here; (with_reducible show wpAny _ _ (call (Value.ref 152) [Value.int _ _, Value.int _ _]) _ _ _); k_dflt (refine' use_list (by k_asm) (by k_asm) (by k_asm) (by k_asm) (by k_asm) (by first | exact rfl | assumption) (limbs_t (by assumption) (by omega)) (by ktr_room) (by ktr_units) ?_); intro l' vs' n' h' tk' F' N' l1 hI'; (have l1k := l1); (try k_lt l1); (try k_sweep); (try k_fold)))
theorem lsigned_t {w : World} {own : List (Addr × Obj)} {x b : Int} {tx tb : Tok} (hb : 3 ≤ b ∧ b ≤ 8) (h0 : 0 ≤ x ∧ x < 1048576) :
    Tell w 159 own [.int x tx, .int b tb] 2 16 (OutN (limbsL x b)) := by
  unfold Tell
  intro mean mg mb dp un gd cn cs a ccd cl outer A₀ base h₀ L m s Q E B F X N T hk hd hu hret
  revert X; k_fill; intro X
  refine wpAny_call ?_
  k_dflt ktr_enter
  have kMk := kstMark
  k_steps
  rename_i l' vs' n' h9 tk9 l1 hI1 l1k D h8 F1 N1 l9 kF kN T1 kX
  have hx : ¬ x < 0 := by omega
  rw [if_neg hx] at hI1
  simp only [decide_eq_false hx] at kN
  obtain ⟨_, l9⟩ := l9
  exact tell_two hret (by k_asm) (by k_asm) (by k_mem) (by k_mem) (by intro p hp; simp only [List.mem_cons, hp, or_true]) l9 (allLt_of l1k) ⟨_, _, _, _, rfl, rfl, hI1⟩
end
end Mine
end
section
theorem Mine.resetC11 : True := by
  k_with_none
  w_top off
  trivial
open PySem PySem.W PyProof.Rows PySem.Calls
set_option Elab.async false
set_option maxRecDepth 100000
set_option maxHeartbeats 8000000
namespace Mine
def plStep (b a x : Int) : Int := a * 2 ^ b.toNat + x
def plainL (ns : List Int) (b : Int) : Int := ns.reverse.foldl (plStep b) 0
structure PlInv (b : Int) (pre : List Int) (found : Int) : Prop where
  out : found = pre.foldl (plStep b) 0
theorem pl_turn {b found x : Int} {pre : List Int} (h : PlInv b pre found) : PlInv b (pre ++ [x]) (found * 2 ^ b.toNat + x) := ⟨by rw [List.foldl_append, ← h.out]; rfl⟩
theorem plain_t {w : World} {own : List (Addr × Obj)} {t l : Addr} {vs : List Value} {ns : List Int} {n : Nat} {b : Int} {tb : Tok} (hx : (t, numO l) ∈ own) (hm : (l, listOf vs.toArray n) ∈ own) (hI : IntsAre vs ns) (hlen : ns.length ≤ 1000) (hb : 3 ≤ b ∧ b ≤ 8) :
    Tell w 166 own [.ref t, .int b tb] 1 8 (OutI (plainL ns b)) := by
  unfold Tell
  intro mean mg mb dp un gd cn cs a ccd cl outer A₀ base h₀ L m s Q E B F X N T hk hd hu hret
  replace N := news_cons (news_cons N hm) (List.mem_cons_of_mem _ hx)
  revert X; k_fill; intro X
  have hp := pow_le hb
  have hbits : Builtin.Int.intBits ((2 : Int) ^ b.toNat) ≤ 64 := PySem.intBits_le_64 (by omega) (by omega)
  refine wpAny_call ?_
  k_dflt ktr_enter
  have kMk := kstMark
  k_with "pyIter ref" => k_state (fun pre found => PlInv b pre found) "found"
  k_with "state" => first | exact ⟨rfl⟩ | exact pl_turn (by assumption)
  k_steps
  exact tell_plain hret (by k_asm) (by k_asm) (by intro p hp; simp only [List.mem_cons, hp, or_true]) ⟨_, by rw [kInv.out]; rfl, rfl⟩
end Mine
end
section
theorem Mine.resetC12 : True := by
  k_with_none
  w_top off
  trivial
open PySem PySem.W PyProof.Rows PySem.Calls
set_option Elab.async false
set_option maxRecDepth 100000
set_option maxHeartbeats 8000000
namespace Mine
def prodF : Nat → Int → Int → Int → Int
  | 0, _, _, f => f
  | k + 1, x, y, f => if 0 < y then prodF k (x * 2) (y.fdiv 2) (if y.fmod 2 = 1 then Builtin.bitXor f x else f) else f
def prodL (x y : Int) : Int := prodF 10 x y 0
structure ProdInv (x y one other found : Int) : Prop where
  out : ∃ k, other < 2 ^ k ∧ prodF k one other found = prodL x y
theorem prod_start {x y : Int} (h : 0 ≤ y ∧ y < 1024) : 0 ≤ y ∧ y < 1024 ∧ ProdInv x y x y 0 := ⟨h.1, h.2, ⟨10, by omega, rfl⟩⟩
theorem half {y : Int} : y.fdiv 2 = y / 2 ∧ y.fmod 2 = y % 2 := ⟨Int.fdiv_eq_ediv_of_nonneg _ (by decide), Int.fmod_eq_emod_of_nonneg _ (by decide)⟩
theorem prod_turn {x y one other found : Int} (h0 : 0 ≤ other) (h1 : other < 1024) (hp : 0 < other) (h : ProdInv x y one other found) :
    0 ≤ other.fdiv 2 ∧ other.fdiv 2 < 1024 ∧ ProdInv x y (one * 2) (other.fdiv 2) (if other.fmod 2 = 1 then Builtin.bitXor found one else found) := by
  obtain ⟨k, a, e⟩ := h.out
  have hh := half (y := other)
  cases k with
  | zero => simp at a; omega
  | succ k =>
    have e2 : (2 : Int) ^ (k + 1) = 2 ^ k * 2 := Int.pow_succ ..
    refine ⟨by omega, by omega, ⟨k, by omega, ?_⟩⟩
    rw [← e]
    show _ = (if 0 < other then _ else _)
    rw [if_pos hp]
theorem prod_turn1 {x y one other found : Int} (h0 : 0 ≤ other) (h1 : other < 1024) (hp : 0 < other) (h : ProdInv x y one other found) (hc : other.fmod 2 = 1) :
    0 ≤ other.fdiv 2 ∧ other.fdiv 2 < 1024 ∧ ProdInv x y (one * 2) (other.fdiv 2) (Builtin.bitXor found one) := by
  have := prod_turn h0 h1 hp h
  rwa [if_pos hc] at this
theorem prod_turn0 {x y one other found : Int} (h0 : 0 ≤ other) (h1 : other < 1024) (hp : 0 < other) (h : ProdInv x y one other found) (hc : other.fmod 2 ≠ 1) :
    0 ≤ other.fdiv 2 ∧ other.fdiv 2 < 1024 ∧ ProdInv x y (one * 2) (other.fdiv 2) found := by
  have := prod_turn h0 h1 hp h
  rwa [if_neg hc] at this
theorem prod_less {other : Int} (hp : 0 < other) : (other.fdiv 2).toNat < other.toNat := by
  have hh := half (y := other)
  omega
theorem prod_end {x y one other found : Int} (hp : ¬ 0 < other) (h : ProdInv x y one other found) : found = prodL x y := by
  obtain ⟨k, _, e⟩ := h.out
  rw [← e]
  cases k with
  | zero => rfl
  | succ k => unfold prodF; rw [if_neg hp]
theorem product_t {w : World} {own : List (Addr × Obj)} {x y : Int} {tx ty : Tok} (hy : 0 ≤ y ∧ y < 1024) :
    Tell w 173 own [.int x tx, .int y ty] 1 8 (OutI (prodL x y)) := by
  unfold Tell
  intro mean mg mb dp un gd cn cs a ccd cl outer A₀ base h₀ L m s Q E B F X N T hk hd hu hret
  revert X; k_fill; intro X
  refine wpAny_call ?_
  k_dflt ktr_enter
  have kMk := kstMark
  have hI0 : IntsAre [] [] := .nil
  k_with "exec While Compare cons nil" => k_while (fun _ one other found => 0 ≤ other ∧ other < 1024 ∧ ProdInv x y one other found) (fun _ one other found => other.toNat) "one" "other" "found"
  k_with "state" => first | exact prod_start hy | exact prod_turn1 (by assumption) (by assumption) (by assumption) (by assumption) (by assumption) | exact prod_turn0 (by assumption) (by assumption) (by assumption) (by assumption) (by assumption)
  k_with "measure" => exact prod_less (by assumption)
  k_steps
  rename_i one t1 other t2 found t3 q0 q1 q2 hneg kF kN T1 kX
  exact tell_plain hret (by k_asm) (by k_asm) (fun p hp => hp) ⟨_, by rw [prod_end hneg q2], rfl⟩
end Mine
end
section
theorem Mine.resetC13 : True := by
  k_with_none
  w_top off
  trivial
open PySem PySem.W PyProof.Rows PySem.Calls
set_option Elab.async false
set_option maxRecDepth 100000
set_option maxHeartbeats 8000000
namespace Mine
abbrev npLed (Dm Lc : Addr) (oC : Obj) (rest : List (Addr × Obj)) (c : List Value × List Int × Nat) : List (Addr × Obj) := (Dm, listOf c.1.toArray c.2.2) :: (Lc, oC) :: rest
abbrev npJ (Dm Lc : Addr) (oC : Obj) (rest : List (Addr × Obj)) (x : PySem.Str) (stored : List PySem.Str) (m₀ : PySem.Str → Option Value) (P : List Int → List Int → Prop) (pre : List Int) : (PySem.Str → Option Value) → List (Addr × Obj) → Prop :=
  KstS (σ := List Value × List Int × Nat) (npLed Dm Lc oC rest) (fun _ => []) (fun c => IntsAre c.1 c.2.1) x stored m₀ (fun pre c => P pre c.2.1) pre
section
variable {prog : Program} {w : World} {A : Around} {E : Value → Shared → Prop} {s : Shared} {env : Env} {h₀ : Heap} {body : List Stmt} {Q : Flow → Shared → Prop}
theorem np_range {x : PySem.Str} {r Dm Lc : Addr} {oC : Obj} {a₀ b₀ : Int} {n : Nat} {t₀ u₀ v₀ : Tok} {m₀ : PySem.Str → Option Value} {rest : List (Addr × Obj)} {vs0 : List Value} {ns0 : List Int} {k0 : Nat} (stored : List PySem.Str) (P : List Int → List Int → Prop)
    (hh : A.handled = none) (hr : IsRange s.heap r a₀ b₀ 1 t₀ u₀ v₀) (hsmall : Builtin.Range.small a₀ b₀ 1 = true) (hsz : Builtin.Range.rangeSize a₀ b₀ 1 = (n : Int)) (F : Fr h₀ env.locals s.heap m₀) (N : News h₀ env.locals s.heap ((Dm, listOf vs0.toArray k0) :: (Lc, oC) :: rest)) (hI : IntsAre vs0 ns0) (hoff : OwnOff rest [Dm]) (hp : P [] ns0)
    (turn : ∀ (vs : List Value) (ns : List Int) (c : Nat) (pre : List Int) (k : Int) (t : Tok) (u : PySem.Str → Option Value) (h : Heap) (tk : Tok) (own rest' : List (Addr × Obj)), rest' = rest ++ own → OwnOff rest' [Dm] → k = a₀ + (pre.length : Int) → pre.length < n → IntsAre vs ns → P pre ns →
      Fr h₀ env.locals h (fun y => if y = x then some (.int k t) else (fun z => if stored.contains z then u z else m₀ z) y) → News h₀ env.locals h ((Dm, listOf vs.toArray c) :: (Lc, oC) :: rest') →
      wpAny (model prog w) A (execs body env) (InvPostN h₀ env.locals (npJ Dm Lc oC rest x stored m₀ P (pre ++ [k])) own ((npLed Dm Lc oC rest (vs0, ns0, k0)).map (·.1)) { s with heap := h, toks := tk } Q) E { s with heap := h, toks := tk })
    (done : ∀ (vs : List Value) (ns : List Int) (c : Nat) (u : PySem.Str → Option Value) (h : Heap) (tk : Tok), IntsAre vs ns → P (rangeKs a₀ n) ns → Fr h₀ env.locals h (fun y => if y = x then u y else (fun z => if stored.contains z then u z else m₀ z) y) → News h₀ env.locals h ((Dm, listOf vs.toArray c) :: (Lc, oC) :: rest) → Q .next { s with heap := h, toks := tk }) :
    wpAny (model prog w) A (pyIter (.ref r)) (fun it s₂ => LoopAtV prog w A h₀ env x body Q E it s₂) E s := by
  refine kst_range (n := n) (σ := List Value × List Int × Nat) (npLed Dm Lc oC rest) (fun _ => []) (fun c => IntsAre c.1 c.2.1) stored (fun pre c => P pre c.2.1) (vs0, ns0, k0) hh hr hsmall hsz F N hI (fun _ h => nomatch h) hp ?_ ?_
  · intro c pre k t u h tk own hk hlt hsep hf hP F' N'
    refine turn c.1 c.2.1 c.2.2 pre k t u h tk own _ rfl (fun p hp b hb => ?_) hk hlt hf hP F' N'
    rcases List.mem_append.mp hp with hp | hp
    · exact hoff p hp b hb
    · rw [List.mem_singleton.mp hb]
      exact hsep p hp Dm (by simp)
  · intro c u h tk hf hP F' N'
    exact done c.1 c.2.1 c.2.2 u h tk hf hP F' N'
theorem np_end {x : PySem.Str} {Dm Lc : Addr} {oC : Obj} {L : Addr} {m₀ m' : PySem.Str → Option Value} {rest rest' own all : List (Addr × Obj)} {vs0 : List Value} {ns0 : List Int} {k0 : Nat} {stored : List PySem.Str} {P : List Int → List Int → Prop} {pre : List Int} {s₁ : Shared} {h' : Heap} {tk : Nat}
    (vs : List Value) (ns : List Int) (c : Nat) (e : rest' = rest ++ own) (F : Fr h₀ L h' m') (N : News h₀ L h' all) (hD : (Dm, listOf vs.toArray c) ∈ all) (hL : (Lc, oC) ∈ all) (hs : ∀ p ∈ rest', p ∈ all) (hI : IntsAre vs ns) (hp : P pre ns)
    (hr : ∀ z, z ≠ x → stored.contains z = false → m' z = m₀ z) :
    InvEndN h₀ L (npJ Dm Lc oC rest x stored m₀ P pre) own ((npLed Dm Lc oC rest (vs0, ns0, k0)).map (·.1)) s₁ { s₁ with heap := h', toks := tk } := by
  subst e
  refine kst_end (σ := List Value × List Int × Nat) (vs, ns, c) F N (fun p hp => ?_) (fun p hp => hs p (List.mem_append.mpr (.inr hp))) rfl hI (fun _ h => nomatch h) (fun z h1 _ h3 => hr z h1 h3) hp
  rcases List.mem_cons.mp hp with rfl | hp
  · exact hD
  · rcases List.mem_cons.mp hp with rfl | hp
    · exact hL
    · exact hs p (List.mem_append.mpr (.inl hp))
end
theorem pow_d {d : Int} (h : 2 ≤ d ∧ d ≤ 4) : 4 ≤ (2 : Int) ^ d.toNat ∧ (2 : Int) ^ d.toNat ≤ 16 := by
  have h : d = 2 ∨ d = 3 ∨ d = 4 := by omega
  rcases h with rfl | rfl | rfl <;> decide
def npIn (d one : Int) (made : List Int) (other : Int) : List Int := if ((baseText "0b" 2 one).length : Int) + ((baseText "0b" 2 other).length : Int) - 6 ≤ d then made ++ [prodL one other] else made
def npOut (d : Int) (made : List Int) (one : Int) : List Int := (rangeKs one ((2:Int) ^ d.toNat - one).toNat).foldl (npIn d one) made
def npMade (d : Int) : List Int := (rangeKs 2 ((2:Int) ^ d.toNat - 2).toNat).foldl (npOut d) []
def noprodL (d : Int) : List Int := (rangeKs 2 ((2:Int) ^ (d + 1).toNat - 2).toNat).filter fun k => !((npMade d).any (· == k))
structure NpOut (d : Int) (pre ns : List Int) : Prop where
  eq : ns = pre.foldl (npOut d) []
structure NpIn (d one : Int) (ns0 pre ns : List Int) : Prop where
  eq : ns = pre.foldl (npIn d one) ns0
theorem npOut_start {d : Int} : NpOut d [] [] := ⟨rfl⟩
theorem npIn_start {d one : Int} {ns : List Int} : NpIn d one ns [] ns := ⟨rfl⟩
theorem npIn_yes {d one k : Int} {ns0 pre ns : List Int} (h : NpIn d one ns0 pre ns) (hc : ((baseText "0b" 2 one).length : Int) + ((baseText "0b" 2 k).length : Int) - 6 ≤ d) : NpIn d one ns0 (pre ++ [k]) (ns ++ [prodL one k]) := ⟨by
  rw [List.foldl_append, List.foldl_cons, List.foldl_nil, ← h.eq]
  exact (if_pos hc).symm⟩
theorem npIn_no {d one k : Int} {ns0 pre ns : List Int} (h : NpIn d one ns0 pre ns) (hc : ¬ ((baseText "0b" 2 one).length : Int) + ((baseText "0b" 2 k).length : Int) - 6 ≤ d) : NpIn d one ns0 (pre ++ [k]) ns := ⟨by
  rw [List.foldl_append, List.foldl_cons, List.foldl_nil, ← h.eq]
  exact (if_neg hc).symm⟩
theorem npOut_next {d one : Int} {pre ns ns2 : List Int} (h : NpOut d pre ns) (h2 : NpIn d one ns (rangeKs one ((2:Int) ^ d.toNat - one).toNat) ns2) : NpOut d (pre ++ [one]) ns2 := ⟨by
  rw [List.foldl_append, List.foldl_cons, List.foldl_nil, ← h.eq]
  exact h2.eq⟩
local macro_rules | `(tactic| walk_at "call ref") => `(tactic| (k_here; (with_reducible show wpAny _ _ (call (Value.ref 173) [Value.int _ _, Value.int _ _]) _ _ _); k_dflt (refine' use_int (by k_asm) (by k_asm) (by k_asm) (by k_asm) (by k_asm) (by first | exact rfl | assumption) (product_t (by omega)) (by ktr_room) (by ktr_units) ?_); intro t' h' tk' F' N'; (try k_sweep); (try k_fold)))
local macro_rules | `(tactic| walk_at "eval ListComp") => `(tactic| (k_here; (rename Fr _ _ _ _ => lF'); k_dflt (refine' nc_ListComp lF' (by exact rfl) (by decide) (by exact rfl) (by decide) (by exact rfl) (by exact fun _ => rfl) (by exact fun _ => rfl) (by exact fun _ => rfl) (by exact rfl) (by decide) (by decide) ?_ (by intro _; rfl); k_whole)))
local macro_rules | `(tactic| walk_at "call type:range") => `(tactic| (k_here; (with_reducible show wpAny _ _ _ (NcSrc _ _ _ _ _ _) _ _); ktr_tell (k_dflt (refine' nc_range (by exact rfl) (by k_asm) (by k_asm) (by exact small_one (by omega) (by omega) (by omega) (by omega)) (by exact rangeSize_nat _ _) (by (unfold PySem.sizeLine; omega)) (by k_mem) (by assumption) (by k_mem) (by assumption) ?_)); intro D' ys' c' h' tk' F' N' l1 hI'; (try k_sweep)))
theorem pow_d1 {d : Int} (h : 2 ≤ d ∧ d ≤ 4) : 8 ≤ (2 : Int) ^ (d + 1).toNat ∧ (2 : Int) ^ (d + 1).toNat ≤ 32 := by
  have h : d = 2 ∨ d = 3 ∨ d = 4 := by omega
  rcases h with rfl | rfl | rfl <;> decide
theorem noprod_t {w : World} {own : List (Addr × Obj)} {d : Int} {td : Tok} (hd4 : 2 ≤ d ∧ d ≤ 4) :
    Tell w 178 own [.int d td] 2 16 (OutL (noprodL d)) := by
  unfold Tell
  intro mean mg mb dp un gd cn cs a ccd cl outer A₀ base h₀ L m s Q E B F X N T hk hd hu hret
  revert X; k_fill; intro X
  refine wpAny_call ?_
  k_dflt (refine' code_defC ?k1 ?k2 ?k3 ?k4 ?k5 ?kA ?kF ?kK ?k6 ?k7 ?k8 ?k9 ?kB ?kD ?_ ?c2 ?c3 ?c4; (case kA => exact rfl); (case kF => exact rfl); (case kK => assumption); (case k1 => k_asm); (case k2 => k_asm); (case k3 => k_asm); (case k4 => k_asm); (case k5 => k_asm); (case k6 => k_is); (case k7 => k_is); (case k8 => ktr_room); (case k9 => exact BindsTo.of_eq rfl); (case kB => exact rfl); (case kD => decide +kernel); (case c2 => exact rfl); (case c3 => exact rfl); (case c4 => exact rfl); k_whole; intro g' L' h' tk' cells' FG' F' N' Y' B' X' T' l1; (have l2 := allLt_of (d := L' + 1) (fun p hp => Nat.lt_succ_of_lt (l1 p hp))); (try simp only [AllLt] at l2); (have kMk := kstMark); (try k_lt l1); k_cells Y'; (try simp only [List.cons_append, List.nil_append] at N'); (try dsimp only); (try k_lift B'); (try k_fold))
  have hpd := pow_d hd4
  have hpd1 := pow_d1 hd4
  k_with "pyIter ref" => k_dflt first
    | ((with_reducible show wpAny _ _ (pyIter (Value.ref _)) (fun it s₂ => LoopAtV _ _ _ _ _ (PySem.Str.ofString "one") _ _ _ it s₂) _ _); (rename Fr _ _ _ _ => lF'); (rename News _ _ _ _ => lN'); (rename IsRange _ _ _ _ _ _ _ _ => rgX)
       ktr_tell (with_unfolding_all refine' np_range (x := PySem.Str.ofString "one") (n := (2 ^ d.toNat - 2 : Int).toNat) (vs0 := []) (ns0 := []) [PySem.Str.ofString "other"] (fun pre ns => NpOut d pre ns ∧ ns.length ≤ 20 * pre.length) (by rfl) rgX ?hsm ?hsz lF' lN' .nil ?hoff ⟨npOut_start, Nat.zero_le _⟩ ?turn ?done)
       ktr_tell (case hsm => exact small_one (by omega) (by omega) (by omega) (by omega))
       ktr_tell (case hsz => exact rangeSize_nat _ _)
       ktr_tell (case hoff => intro p hp b hb; rw [List.mem_singleton.mp hb]; exact (by kst_allNe : ∀ p ∈ own, p.1 ≠ _) p hp)
       case' turn =>
         intro vs ns c pre k t u h tk own2 rest' hrest hoff2 hk hlt hI hP hF hN
         obtain ⟨hP, hPl⟩ := hP
         have hkb : 2 ≤ k ∧ k < 16 := by omega
         have hnl : ns.length ≤ 280 := by omega
         clear lF' lN' rgX
         try k_fold
       case' done =>
         intro vs ns c u h tk hI hP hF hN
         clear lF' lN' rgX
         try k_fold)
    | ((with_reducible show wpAny _ _ (pyIter (Value.ref _)) (fun it s₂ => LoopAtV _ _ _ _ _ (PySem.Str.ofString "other") _ _ _ it s₂) _ _); (rename Fr _ _ _ _ => lF'); (rename News _ _ _ _ => lN'); (rename IsRange _ _ _ _ _ _ _ _ => rgX)
       ktr_tell (with_unfolding_all refine' np_range (x := PySem.Str.ofString "other") (n := (2 ^ d.toNat - k : Int).toNat) [] (fun pre2 ns2 => NpIn d k ns pre2 ns2 ∧ ns2.length ≤ ns.length + pre2.length) (by rfl) rgX ?hsm2 ?hsz2 lF' lN' hI ?hoff2 ⟨npIn_start, Nat.le_refl _⟩ ?turn2 ?done2)
       ktr_tell (case hsm2 => exact small_one (by omega) (by omega) (by omega) (by omega))
       ktr_tell (case hsz2 => exact rangeSize_nat _ _)
       ktr_tell (case hoff2 => exact hoff2)
       case' turn2 =>
         intro vs2 ns2 c2 pre2 k2 t2 u2 h2 tk2 own3 rest2 hrest2 hoff3 hk2 hlt2 hI2 hP2 hF2 hN2
         obtain ⟨hP2, hP2l⟩ := hP2
         have hkb2 : 2 ≤ k2 ∧ k2 < 16 := by omega
         have hnl2 : ns2.length ≤ 300 := by omega
         have hvl2 := hI2.length
         clear lF' lN' rgX
         try k_fold
       case' done2 =>
         intro vs2 ns2 c2 u2 h2 tk2 hI2 hP2 hF2 hN2
         clear lF' lN' rgX
         try k_fold)
  k_steps
  · rename_i D' ys' c' h9 tk9 F9 N9 l9 hI9 kF kN Tc kX
    refine tell_ref hret kF kN (.head _) (fun p hp => by simp only [List.mem_cons, hp, or_true]) (allLt_of fun p hp => l9 p (by simp only [List.mem_cons, hp, or_true])) ⟨_, _, _, rfl, rfl, ?_⟩
    rw [hP.1.eq] at hI9
    exact hI9
  · refine' np_end vs2 ns2 c2 hrest ?F ?N ?hD ?hL ?hs hI2 ?hp ?hr
    case F => exact hF2
    case N => exact hN2
    case hD => exact .head _
    case hL => exact .tail _ (.head _)
    case hs => intro p hp; simp only [List.mem_cons, hp, or_true]
    case hp =>
      refine ⟨npOut_next hP hP2.1, ?_⟩
      have := hP2.2
      rw [rangeKs_length] at this
      simp only [List.length_append, List.length_cons, List.length_nil]
      omega
    case hr =>
      intro z h1 h3
      have f3 : z ≠ PySem.Str.ofString "other" := by
        intro e
        subst e
        exact absurd h3 (by decide)
      simp only [f3, h1, if_false, h3, List.contains_nil, Bool.false_eq_true]
  · rename_i hc tk0 t9 h8 tk8 h9 F9 N9
    refine' np_end (vs2 ++ [.int (prodL k k2) t9]) (ns2 ++ [prodL k k2]) (c2 + 1) hrest2 ?F ?N ?hD ?hL ?hs (hI2.append (.cons (prodL k k2) t9 .nil)) ?hp ?hr
    case F => exact F9
    case N => exact N9
    case hD =>
      rw [← List.push_toArray]
      exact .head _
    case hL => exact .tail _ (.head _)
    case hs => intro p hp; simp only [List.mem_cons, hp, or_true]
    case hp =>
      refine ⟨npIn_yes hP2 hc, ?_⟩
      simp only [List.length_append, List.length_cons, List.length_nil]
      omega
    case hr =>
      intro z h1 h3
      simp only [h1, if_false, h3, List.contains_nil, Bool.false_eq_true]
  · rename_i hc
    refine' np_end vs2 ns2 c2 hrest2 ?F ?N ?hD ?hL ?hs hI2 ?hp ?hr
    case F => exact hF2
    case N => exact hN2
    case hD => exact .head _
    case hL => exact .tail _ (.head _)
    case hs => intro p hp; simp only [List.mem_cons, hp, or_true]
    case hp =>
      refine ⟨npIn_no hP2 hc, ?_⟩
      simp only [List.length_append, List.length_cons, List.length_nil]
      omega
    case hr =>
      intro z h1 h3
      simp only [h1, if_false, h3, List.contains_nil, Bool.false_eq_true]
end Mine
end
section
theorem Mine.resetD1 : True := by
  k_with_none
  w_top off
  trivial
open PySem PySem.W PyProof.Rows PySem.Calls
set_option Elab.async false
set_option maxRecDepth 100000
set_option maxHeartbeats 8000000
namespace Mine
def degO (one : Int) : Int := ((baseText "0b" 2 one).length : Int) - 3
def lawStep (b e : Int) (c : List Int × Int) (one : Int) : List Int × Int :=
  if e.fmod (degO one) = 0 then ((parN b (limbsL one b) ([], c.1) 18).1, c.2 + degO one) else c
def lawTurn (b e : Int) (c : List Int × Int) (one : Int) : Bool :=
  let r := parN b (limbsL one b) ([], c.1) 18
  decide (c.1.length ≤ 20) && c.1.all (fun x => decide (0 ≤ x) && decide (x < 2 ^ b.toNat)) && decide ((limbsL one b).length ≤ 7) && decide (2 ≤ one) && decide (one < 32) && decide (1 ≤ degO one) && decide (degO one ≤ 4) &&
    decide (r.1.length ≤ 1000) && decide (r.2.length ≤ 1000) && decide (Builtin.bitXor (prodL (plainL r.1 b) one) (plainL r.2 b) = plainL c.1 b) && decide ((r.2 = []) ↔ (e.fmod (degO one) = 0))
def lawGo (b e : Int) : List Int → List Int × Int → Bool
  | [], c => decide (c.1 = [1]) && decide (c.2 = 2 ^ e.toNat)
  | one :: rest, c => lawTurn b e c one && lawGo b e rest (lawStep b e c one)
theorem np_2 : noprodL 2 = [2, 3, 7] := by decide +kernel
theorem np_3 : noprodL 3 = [2, 3, 7, 11, 13] := by decide +kernel
theorem np_4 : noprodL 4 = [2, 3, 7, 11, 13, 19, 25, 31] := by decide +kernel
theorem six {b : Int} (h : 3 ≤ b ∧ b ≤ 8) : b = 3 ∨ b = 4 ∨ b = 5 ∨ b = 6 ∨ b = 7 ∨ b = 8 := by omega
theorem law_2 {b : Int} (h : 3 ≤ b ∧ b ≤ 8) : lawGo b 2 (noprodL 2) (limbsL 18 b, 0) = true := by
  rw [np_2]
  rcases six h with rfl | rfl | rfl | rfl | rfl | rfl <;> decide +kernel
theorem law_3 {b : Int} (h : 3 ≤ b ∧ b ≤ 8) : lawGo b 3 (noprodL 3) (limbsL 258 b, 0) = true := by
  rw [np_3]
  rcases six h with rfl | rfl | rfl | rfl | rfl | rfl <;> decide +kernel
theorem law_4 {b : Int} (h : 3 ≤ b ∧ b ≤ 8) : lawGo b 4 (noprodL 4) (limbsL 65538 b, 0) = true := by
  rw [np_4]
  rcases six h with rfl | rfl | rfl | rfl | rfl | rfl <;> decide +kernel
end Mine
end
section
theorem Mine.resetL1 : True := by
  k_with_none
  w_top off
  trivial
open PySem PySem.W PyProof.Rows PySem.Calls
set_option Elab.async false
set_option maxRecDepth 100000
set_option maxHeartbeats 600000
namespace Mine
structure LawAt (b e : Int) (W : List Int) (one : Int) : Prop where
  len : W.length ≤ 20
  limbs : Limbs b W
  dlen : (limbsL one b).length ≤ 7
  rng : 2 ≤ one ∧ one < 32
  deg : 1 ≤ ((baseText "0b" 2 one).length : Int) - 3 ∧ ((baseText "0b" 2 one).length : Int) - 3 ≤ 4
  f1 : (parN b (limbsL one b) ([], W) 18).1.length ≤ 1000
  f2 : (parN b (limbsL one b) ([], W) 18).2.length ≤ 1000
  eq : Builtin.bitXor (prodL (plainL (parN b (limbsL one b) ([], W) 18).1 b) one) (plainL (parN b (limbsL one b) ([], W) 18).2 b) = plainL W b
  iff : ((parN b (limbsL one b) ([], W) 18).2 = []) ↔ (e.fmod (((baseText "0b" 2 one).length : Int) - 3) = 0)
theorem lawAt_of {b e one : Int} {c : List Int × Int} (h : lawTurn b e c one = true) : LawAt b e c.1 one := by
  unfold lawTurn at h
  simp only [Bool.and_eq_true, decide_eq_true_eq] at h
  obtain ⟨⟨⟨⟨⟨⟨⟨⟨⟨⟨h1, h2⟩, h3⟩, h4⟩, h5⟩, h6⟩, h7⟩, h8⟩, h9⟩, h10⟩, h11⟩ := h
  refine ⟨h1, fun x hx => ?_, h3, ⟨h4, h5⟩, ⟨h6, h7⟩, h8, h9, h10, h11⟩
  have := List.all_eq_true.mp h2 x hx
  simpa using this
theorem lawGo_at {b e one : Int} {post : List Int} : ∀ {pre : List Int} {c : List Int × Int}, lawGo b e (pre ++ one :: post) c = true → LawAt b e (pre.foldl (lawStep b e) c).1 one
  | [], c, h => by
    rw [List.nil_append] at h
    unfold lawGo at h
    exact lawAt_of (Bool.and_eq_true_iff.mp h).1
  | a :: pre, c, h => by
    rw [List.cons_append] at h
    unfold lawGo at h
    exact lawGo_at (pre := pre) (c := lawStep b e c a) (Bool.and_eq_true_iff.mp h).2
theorem lawGo_end {b e : Int} : ∀ {ns : List Int} {c : List Int × Int}, lawGo b e ns c = true → ns.foldl (lawStep b e) c = ([1], 2 ^ e.toNat)
  | [], c, h => by
    unfold lawGo at h
    simp only [Bool.and_eq_true, decide_eq_true_eq] at h
    exact Prod.ext h.1 h.2
  | a :: pre, c, h => by
    unfold lawGo at h
    exact lawGo_end (ns := pre) (c := lawStep b e c a) (Bool.and_eq_true_iff.mp h).2
theorem lawStep_yes {b e one : Int} {W : List Int} {D : Int} (hc : e.fmod (((baseText "0b" 2 one).length : Int) - 3) = 0) :
    lawStep b e (W, D) one = ((parN b (limbsL one b) ([], W) 18).1, D + (((baseText "0b" 2 one).length : Int) - 3)) := by
  unfold lawStep degO
  rw [if_pos hc]
theorem lawStep_no {b e one : Int} {W : List Int} {D : Int} (hc : ¬ e.fmod (((baseText "0b" 2 one).length : Int) - 3) = 0) : lawStep b e (W, D) one = (W, D) := by
  unfold lawStep degO
  rw [if_neg hc]
structure LawAtR (b e : Int) (W : List Int) (one : Int) (r1 r2 : List Int) : Prop where
  run : parN b (limbsL one b) ([], W) 18 = (r1, r2)
  len : W.length ≤ 20
  limbs : Limbs b W
  dlen : (limbsL one b).length ≤ 7
  rng : 2 ≤ one ∧ one < 32
  deg : 1 ≤ ((baseText "0b" 2 one).length : Int) - 3 ∧ ((baseText "0b" 2 one).length : Int) - 3 ≤ 4
  f1 : r1.length ≤ 1000
  f2 : r2.length ≤ 1000
  eq : Builtin.bitXor (prodL (plainL r1 b) one) (plainL r2 b) = plainL W b
  iff : (r2 = []) ↔ (e.fmod (((baseText "0b" 2 one).length : Int) - 3) = 0)
theorem lawAtR {b e one : Int} {W : List Int} (h : LawAt b e W one) : ∃ r1 r2, LawAtR b e W one r1 r2 := by
  obtain ⟨h1, h2, h3, h4, h5, h6, h7, h8, h9⟩ := h
  generalize hr : parN b (limbsL one b) ([], W) 18 = r at h6 h7 h8 h9
  exact ⟨r.1, r.2, hr, h1, h2, h3, h4, h5, h6, h7, h8, h9⟩
structure LawC where
  t : Addr
  W : List Int
  D : Int
  tD : Tok
def LawFacts (nx : List (Addr × Obj)) (c : LawC) : Prop := NumIn nx c.t c.W
def LawP (b e : Int) (c0 : List Int × Int) (pre : List Int) (c : LawC) : Prop := (c.W, c.D) = pre.foldl (lawStep b e) c0
abbrev lawPs (c : LawC) : List (PySem.Str × Value) := [(PySem.Str.ofString "whole", .ref c.t), (PySem.Str.ofString "degrees", .int c.D c.tD)]
abbrev lawTemps : List PySem.Str := [PySem.Str.ofString "degree", PySem.Str.ofString "found", PySem.Str.ofString "left"]
abbrev lawJ (b e : Int) (c0 : List Int × Int) (news : List (Addr × Obj)) (m₀ : PySem.Str → Option Value) (pre : List Int) : (PySem.Str → Option Value) → List (Addr × Obj) → Prop :=
  KdS (σ := LawC) (fun _ => []) news lawPs LawFacts (PySem.Str.ofString "one") lawTemps m₀ (LawP b e c0) (news.map (·.1)) pre
section
variable {prog : Program} {w : World} {A : Around} {E : Value → Shared → Prop} {s : Shared} {env : Env} {h₀ : Heap} {body : List Stmt} {Q : Flow → Shared → Prop}
theorem law_loop {l : Addr} {vs : List Value} {ns : List Int} {nn : Nat} {m₀ : PySem.Str → Option Value} {news : List (Addr × Obj)} (b e : Int) {W0 : List Int} {t0 : Addr} {td : Tok}
    (hh : A.handled = none) (hl : (l, listOf vs.toArray nn) ∈ news) (hi : IntsAre vs ns) (F : Fr h₀ env.locals s.heap m₀) (N : News h₀ env.locals s.heap news)
    (hn : NumIn news t0 W0) (hm1 : m₀ (PySem.Str.ofString "whole") = some (.ref t0)) (hm2 : m₀ (PySem.Str.ofString "degrees") = some (.int 0 td)) (hgo : lawGo b e ns (W0, 0) = true)
    (turn : ∀ (tw lw : Addr) (vw : List Value) (kw : Nat) (W : List Int) (D : Int) (tD : Tok) (tl own rest : List (Addr × Obj)) (pre : List Int) (one : Int) (t1 : Tok) (u : PySem.Str → Option Value) (h : Heap) (tk : Tok),
      rest = news ++ (tl ++ own) → KdSep own tl (news.map (·.1)) → ∀ (r1 r2 : List Int), LawAtR b e W one r1 r2 → (W, D) = pre.foldl (lawStep b e) (W0, 0) → LawFacts (news ++ tl) ⟨tw, W, D, tD⟩ → IntsAre vw W →
      Fr h₀ env.locals h (fun y => if y = PySem.Str.ofString "one" then some (.int one t1) else kstB (fun z => if lawTemps.contains z then u z else m₀ z) [(PySem.Str.ofString "whole", .ref tw), (PySem.Str.ofString "degrees", .int D tD)] y) →
      News h₀ env.locals h ((tw, numO lw) :: (lw, listOf vw.toArray kw) :: rest) →
      wpAny (model prog w) A (execs body env) (InvPostG h₀ env.locals (lawJ b e (W0, 0) news m₀ (pre ++ [one])) own { s with heap := h, toks := tk } Q) E { s with heap := h, toks := tk })
    (done : ∀ (tw lw : Addr) (vw : List Value) (kw : Nat) (tD : Tok) (tl rest : List (Addr × Obj)) (u : PySem.Str → Option Value) (h : Heap) (tk : Tok), rest = news ++ tl → IntsAre vw [1] →
      Fr h₀ env.locals h (fun y => if y = PySem.Str.ofString "one" then u y else kstB (fun z => if lawTemps.contains z then u z else m₀ z) [(PySem.Str.ofString "whole", .ref tw), (PySem.Str.ofString "degrees", .int (2 ^ e.toNat) tD)] y) →
      News h₀ env.locals h ((tw, numO lw) :: (lw, listOf vw.toArray kw) :: rest) → Q .next { s with heap := h, toks := tk }) :
    wpAny (model prog w) A (pyIter (.ref l)) (fun it s₂ => LoopAtV prog w A h₀ env (PySem.Str.ofString "one") body Q E it s₂) E s := by
  refine kd_listI (σ := LawC) (fun _ => []) news lawPs LawFacts lawTemps (LawP b e (W0, 0)) (news.map (·.1)) ⟨t0, W0, 0, td⟩ hh hl hi F N (fun p hp => by simpa using hp) (fun _ => rfl) (by rw [List.append_nil]; exact hn) (fun p hp => ?_) rfl ?_ ?_
  · simp only [List.mem_cons, List.not_mem_nil, or_false] at hp
    rcases hp with rfl | rfl
    · exact hm1
    · exact hm2
  · intro c tl pre post k t u h tk own hns _ hsep _ hF hP F' N'
    obtain ⟨lw, vw, kw, a1, a2, a3⟩ := id hF
    have up : ∀ p ∈ news ++ tl, p ∈ news ++ (tl ++ own) := fun p hp => by rw [← List.append_assoc]; exact List.mem_append.mpr (.inl hp)
    have hat := lawGo_at (pre := pre) (one := k) (post := post) (hns ▸ hgo)
    rw [← show (c.W, c.D) = _ from hP] at hat
    obtain ⟨r1, r2, hat⟩ := lawAtR hat
    refine turn c.t lw vw kw c.W c.D c.tD tl own _ pre k t u h tk rfl hsep r1 r2 hat hP hF a3 F' (fun p hp => N' p ?_)
    simp only [List.mem_cons] at hp
    rcases hp with rfl | rfl | hp
    · exact up _ a1
    · exact up _ a2
    · exact hp
  · intro c tl u h tk _ hF hP F' N'
    obtain ⟨lw, vw, kw, a1, a2, a3⟩ := hF
    have hend := (show (c.W, c.D) = _ from hP).trans (lawGo_end hgo)
    obtain ⟨ct, cW, cD, ctD⟩ := c
    obtain ⟨rfl, rfl⟩ := Prod.mk.inj hend
    refine done ct lw vw kw ctD tl _ u h tk rfl a3 F' (fun p hp => N' p ?_)
    simp only [List.mem_cons] at hp
    rcases hp with rfl | rfl | hp
    · exact a1
    · exact a2
    · exact hp
theorem law_end {L : Addr} {b e one : Int} {c0 : List Int × Int} {news : List (Addr × Obj)} {m₀ : PySem.Str → Option Value} {pre : List Int} {own tl rest all : List (Addr × Obj)} {s₁ : Shared} {h' : Heap} {tk : Nat} {m' : PySem.Str → Option Value} {W : List Int} {D : Int}
    (tw : Addr) (tD : Tok) (hrest : rest = news ++ (tl ++ own)) (h0 : KdSep own tl (news.map (·.1))) (F : Fr h₀ L h' m') (N : News h₀ L h' all) (hs : ∀ p ∈ rest, p ∈ all) (hF : LawFacts (news ++ tl) ⟨tw, W, D, tD⟩) (hP : (W, D) = pre.foldl (lawStep b e) c0)
    (hc : ¬ e.fmod (((baseText "0b" 2 one).length : Int) - 3) = 0) (hk : ∀ p ∈ lawPs ⟨tw, W, D, tD⟩, m' p.1 = some p.2) (hr : ∀ z, z ≠ PySem.Str.ofString "one" → (∀ p ∈ lawPs ⟨tw, W, D, tD⟩, z ≠ p.1) → lawTemps.contains z = false → m' z = m₀ z) :
    InvEndG h₀ L (lawJ b e c0 news m₀ (pre ++ [one])) own s₁ { s₁ with heap := h', toks := tk } := by
  subst hrest
  refine kd_end (σ := LawC) ⟨tw, W, D, tD⟩ [] (tl := tl) h0 F N (fun p hp => ?_) (fun p hp => hs p ?_) rfl (fun _ h => nomatch h) (fun _ h => nomatch h) hk hr (by simpa using hF) ?_
  · rw [List.nil_append, List.nil_append] at hp
    exact hs p (by rw [← List.append_assoc]; exact List.mem_append.mpr (.inl hp))
  · exact List.mem_append.mpr (.inr (List.mem_append.mpr (.inr hp)))
  · unfold LawP
    rw [List.foldl_append, List.foldl_cons, List.foldl_nil, ← hP, lawStep_no hc]
set_option maxHeartbeats 400000
theorem law_end2 {L : Addr} {b e one : Int} {c0 : List Int × Int} {news : List (Addr × Obj)} {m₀ : PySem.Str → Option Value} {pre : List Int} {own tl rest all : List (Addr × Obj)} {s₁ : Shared} {h' : Heap} {tk : Nat} {m' : PySem.Str → Option Value} {W : List Int} {D : Int}
    (F1 : List Int) (g : Int) (hF1 : (parN b (limbsL one b) ([], W) 18).1 = F1) (hg : ((baseText "0b" 2 one).length : Int) - 3 = g) (tf lf : Addr) {vf : List Value} {kf : Nat} (tD : Tok) (hrest : rest = news ++ (tl ++ own)) (h0 : KdSep own tl (news.map (·.1))) (F : Fr h₀ L h' m') (N : News h₀ L h' all) (hs : ∀ p ∈ rest, p ∈ all) (hP : (W, D) = pre.foldl (lawStep b e) c0)
    (hc : e.fmod (((baseText "0b" 2 one).length : Int) - 3) = 0) (a1 : (tf, numO lf) ∈ all) (a2 : (lf, listOf vf.toArray kf) ∈ all) {y1 : List (Addr × Obj)} (n1 : ∀ p ∈ y1, p.1 ≠ tf) (n2 : ∀ p ∈ y1, p.1 ≠ lf) (z1 : ∀ p ∈ rest, p ∈ y1)
    (hI : IntsAre vf F1)
    (hk : ∀ p ∈ lawPs ⟨tf, F1, D + g, tD⟩, m' p.1 = some p.2) (hr : ∀ z, z ≠ PySem.Str.ofString "one" → (∀ p ∈ lawPs ⟨tf, F1, D + g, tD⟩, z ≠ p.1) → lawTemps.contains z = false → m' z = m₀ z) :
    InvEndG h₀ L (lawJ b e c0 news m₀ (pre ++ [one])) own s₁ { s₁ with heap := h', toks := tk } := by
  subst hrest
  have ne : ∀ q ∈ [(tf, numO lf), (lf, listOf vf.toArray kf)], ∀ p ∈ news ++ (tl ++ own), p.1 ≠ q.1 := by
    intro q hq p hp
    simp only [List.mem_cons, List.not_mem_nil, or_false] at hq
    rcases hq with rfl | rfl
    · exact n1 p (z1 p hp)
    · exact n2 p (z1 p hp)
  refine kd_end (σ := LawC) ⟨tf, F1, D + g, tD⟩ [(tf, numO lf), (lf, listOf vf.toArray kf)] (tl := tl) h0 F N (fun p hp => ?_) (fun p hp => hs p ?_) rfl (fun q hq a ha => ?_) (fun q hq p hp => ?_) hk hr ⟨lf, vf, kf, ?_, ?_, hI⟩ ?_
  · rw [List.nil_append] at hp
    rcases List.mem_append.mp hp with hp | hp
    · exact hs p (List.mem_append.mpr (.inl hp))
    · rcases List.mem_append.mp hp with hp | hp
      · simp only [List.mem_cons, List.not_mem_nil, or_false] at hp
        rcases hp with rfl | rfl
        · exact a1
        · exact a2
      · exact hs p (List.mem_append.mpr (.inr (List.mem_append.mpr (.inl hp))))
  · exact List.mem_append.mpr (.inr (List.mem_append.mpr (.inr hp)))
  · obtain ⟨p, hp, rfl⟩ := List.mem_map.mp ha
    exact ne q hq p (List.mem_append.mpr (.inl hp))
  · exact ne q hq p (List.mem_append.mpr (.inr (List.mem_append.mpr (.inr hp))))
  · simp
  · simp
  · unfold LawP
    rw [List.foldl_append, List.foldl_cons, List.foldl_nil, ← hP, lawStep_yes hc, hF1, hg]
end
theorem parted_tR {w : World} {own : List (Addr × Obj)} {t l td ld : Addr} {vs vd : List Value} {ns dv r1 r2 : List Int} {n kd : Nat} {b : Int} {tb : Tok} (hx : (t, numO l) ∈ own) (hm : (l, listOf vs.toArray n) ∈ own) (hI : IntsAre vs ns)
   (hx2 : (td, numO ld) ∈ own) (hm2 : (ld, listOf vd.toArray kd) ∈ own) (hI2 : IntsAre vd dv) (hb : 3 ≤ b ∧ b ≤ 8) (hr : Limbs b ns) (hr2 : Limbs b dv) (hlen : ns.length ≤ 20) (hlen2 : dv.length ≤ 7) (re : parN b dv ([], ns) 18 = (r1, r2)) :
    TellP w own [.ref t, .ref td, .int b tb] (r1, r2) := by
  rw [← re]
  exact parted_t hx hm hI hx2 hm2 hI2 hb hr hr2 hlen hlen2
section
variable {w : World} {f : Addr} {args : List Value} {own : List (Addr × Obj)} {mean : ExcName → Option Value} {mg mb : PySem.Str → Option Value} {dp un : Nat} {gd : Option (List Code)} {cn : PySem.Str} {cs : Scope} {a : Addr} {ccd : Value} {cl : List (PySem.Str × Addr)} {outer : List Env} {A₀ : Around} {base h₀ : Heap} {L : Addr} {m : PySem.Str → Option Value} {s : Shared} {Q E : Value → Shared → Prop}
theorem use_par {r1 r2 : List Int} (B : Below A₀ base outer h₀) (F : Fr h₀ L s.heap m) (X : (Mine.hd.heap_39 w.params).In h₀) (N : News h₀ L s.heap own) (T : Top Mine.hd.view_39 (looseW Mine.hd.view_39 []) mean mg mb h₀) (hk : cs.kind = .function)
    (C : TellP w own args (r1, r2)) (hd : dp + 4 < recursionLimit) (hu : un + 32 < cLine)
    (ret : ∀ (t' tf lf tn ln : Addr) (vf vn : List Value) (kf kn : Nat) (h' : Heap) (tk' : Tok), Fr h₀ L h' m → News h₀ L h' ((t', tupO tf tn) :: (tf, numO lf) :: (lf, listOf vf.toArray kf) :: (tn, numO ln) :: (ln, listOf vn.toArray kn) :: own) → (∀ p ∈ own, p.1 ≠ tf) → (∀ p ∈ own, p.1 ≠ lf) → IntsAre vf r1 → IntsAre vn r2 → Q (.ref t') { s with heap := h', toks := tk' }) :
    wpAny (model PySem.Challenge.rw_xm0437_01.row.prog w) (ktrTop dp un gd cn cs L a ccd cl outer) (call (.ref 185) args) Q E s :=
  C _ _ _ _ _ _ _ _ _ _ _ _ _ _ _ _ _ _ _ _ B F X N T hk hd hu ret
end
theorem law_2x {x b : Int} (h : 3 ≤ b ∧ b ≤ 8) (hx : x = 18) : lawGo b 2 (noprodL 2) (limbsL x b, 0) = true := by rw [hx]; exact law_2 h
theorem law_3x {x b : Int} (h : 3 ≤ b ∧ b ≤ 8) (hx : x = 258) : lawGo b 3 (noprodL 3) (limbsL x b, 0) = true := by rw [hx]; exact law_3 h
theorem law_4x {x b : Int} (h : 3 ≤ b ∧ b ≤ 8) (hx : x = 65538) : lawGo b 4 (noprodL 4) (limbsL x b, 0) = true := by rw [hx]; exact law_4 h
theorem limbsL_ok {b x : Int} (hb : 3 ≤ b ∧ b ≤ 8) (h : 0 ≤ x) : Limbs b (limbsL x b) := limbsF_limbs hb _ _ h
theorem law_go {b e x : Int} (hb : 3 ≤ b ∧ b ≤ 8) (hc : (e = 2 ∧ x = 18) ∨ (e = 3 ∧ x = 258) ∨ (e = 4 ∧ x = 65538)) : lawGo b e (noprodL e) (limbsL x b, 0) = true := by
  rcases hc with ⟨rfl, h⟩ | ⟨rfl, h⟩ | ⟨rfl, h⟩
  · exact law_2x hb h
  · exact law_3x hb h
  · exact law_4x hb h
section
variable {prog : Program} {w : World} {A : Around} {E : Value → Shared → Prop} {s : Shared} {env : Env} {h₀ : Heap} {body : List Stmt} {Q : Flow → Shared → Prop}
theorem law_loopX {l : Addr} {vs : List Value} {nn : Nat} {m₀ : PySem.Str → Option Value} {news : List (Addr × Obj)} {b e x : Int} {t0 : Addr} {td : Tok}
    (hh : A.handled = none) (hl : (l, listOf vs.toArray nn) ∈ news) (hi : IntsAre vs (noprodL e)) (F : Fr h₀ env.locals s.heap m₀) (N : News h₀ env.locals s.heap news)
    (hn : NumIn news t0 (limbsL x b)) (hm1 : m₀ (PySem.Str.ofString "whole") = some (.ref t0)) (hm2 : m₀ (PySem.Str.ofString "degrees") = some (.int 0 td)) (hb : 3 ≤ b ∧ b ≤ 8) (hcase : (e = 2 ∧ x = 18) ∨ (e = 3 ∧ x = 258) ∨ (e = 4 ∧ x = 65538))
    (turn : ∀ (tw lw : Addr) (vw : List Value) (kw : Nat) (W : List Int) (D : Int) (tD : Tok) (tl own rest : List (Addr × Obj)) (pre : List Int) (one : Int) (t1 : Tok) (u : PySem.Str → Option Value) (h : Heap) (tk : Tok),
      rest = news ++ (tl ++ own) → KdSep own tl (news.map (·.1)) → ∀ (r1 r2 : List Int), LawAtR b e W one r1 r2 → (W, D) = pre.foldl (lawStep b e) (limbsL x b, 0) → LawFacts (news ++ tl) ⟨tw, W, D, tD⟩ → IntsAre vw W →
      Fr h₀ env.locals h (fun y => if y = PySem.Str.ofString "one" then some (.int one t1) else kstB (fun z => if lawTemps.contains z then u z else m₀ z) [(PySem.Str.ofString "whole", .ref tw), (PySem.Str.ofString "degrees", .int D tD)] y) →
      News h₀ env.locals h ((tw, numO lw) :: (lw, listOf vw.toArray kw) :: rest) →
      wpAny (model prog w) A (execs body env) (InvPostG h₀ env.locals (lawJ b e (limbsL x b, 0) news m₀ (pre ++ [one])) own { s with heap := h, toks := tk } Q) E { s with heap := h, toks := tk })
    (done : ∀ (tw lw : Addr) (vw : List Value) (kw : Nat) (tD : Tok) (tl rest : List (Addr × Obj)) (u : PySem.Str → Option Value) (h : Heap) (tk : Tok), rest = news ++ tl → IntsAre vw [1] →
      Fr h₀ env.locals h (fun y => if y = PySem.Str.ofString "one" then u y else kstB (fun z => if lawTemps.contains z then u z else m₀ z) [(PySem.Str.ofString "whole", .ref tw), (PySem.Str.ofString "degrees", .int (2 ^ e.toNat) tD)] y) →
      News h₀ env.locals h ((tw, numO lw) :: (lw, listOf vw.toArray kw) :: rest) → Q .next { s with heap := h, toks := tk }) :
    wpAny (model prog w) A (pyIter (.ref l)) (fun it s₂ => LoopAtV prog w A h₀ env (PySem.Str.ofString "one") body Q E it s₂) E s :=
  law_loop b e hh hl hi F N hn hm1 hm2 (law_go hb hcase) turn done
end
theorem fm6 (x : Int) : 3 ≤ 3 + x.fmod 6 ∧ 3 + x.fmod 6 ≤ 8 := by
  rw [Int.fmod_eq_emod_of_nonneg _ (by decide)]
  omega
end Mine
end
section
theorem Mine.resetL2 : True := by
  k_with_none
  w_top off
  trivial
open PySem PySem.W PyProof.Rows PySem.Calls
set_option Elab.async false
set_option maxRecDepth 100000
set_option maxHeartbeats 400000
namespace Mine
section
variable {prog : Program} {w : World} {A : Around} {E : Value → Shared → Prop} {s : Shared} {h₀ : Heap} {L : Addr} {news : List (Addr × Obj)}
theorem shaped_num (ns : List Int) : SeqAt.shaped (.tuple [.bool false, .list (ns.map PyData.int)]) = true := by
  have h1 := PySem.W.depthAll_ints ns
  have h2 : PyData.depth (.tuple [.bool false, .list (ns.map PyData.int)]) ≤ 64 := by
    simp only [PyData.depth, PyData.depthAll]
    omega
  show (PyData.canLay0 (.tuple [.bool false, .list (ns.map PyData.int)]) && decide (PyData.depth (.tuple [.bool false, .list (ns.map PyData.int)]) ≤ 64)) = true
  rw [Bool.and_eq_true]
  exact ⟨by simp [PyData.canLay0, PyData.canLayAll0, PySem.W.canLayAll0_ints ns], decide_eq_true h2⟩
theorem eq_num {t1 l1 t2 l2 : Addr} {vs us : List Value} {ns ms : List Int} {Q : Value → Shared → Prop} (N : News h₀ L s.heap news) (a1 : (t1, numO l1) ∈ news) (a2 : s.heap.IsList l1 vs.toArray) (hi : IntsAre vs ns)
    (b1 : (t2, numO l2) ∈ news) (b2 : s.heap.IsList l2 us.toArray) (hi' : IntsAre us ms) (hu : A.units + 64 < cLine) (h : Q (.bool (decide (ns = ms))) s) :
    wpAny (model prog w) A (compareOp .Eq (.ref t1) (.ref t2)) Q E s := by
  refine eq_dataH (reads_tuple_at (N.get a1) rfl rfl (.cons (.bool false) (.cons (PySem.W.reads_of_ints a2 hi) .nil))) (reads_tuple_at (N.get b1) rfl rfl (.cons (.bool false) (.cons (PySem.W.reads_of_ints b2 hi') .nil))) (shaped_num ns) (shaped_num ms) hu ?_
  simp only [PyData.eqv, PyData.eqvAll, ked_eqvAll, beq_self_eq_true, Bool.and_true, Bool.true_and]
  exact h
theorem eq_numT {t1 l1 t2 l2 : Addr} {vs us : List Value} {ns : List Int} {Q : Value → Shared → Prop} (N : News h₀ L s.heap news) (a1 : (t1, numO l1) ∈ news) (a2 : s.heap.IsList l1 vs.toArray) (hi : IntsAre vs ns)
    (b1 : (t2, numO l2) ∈ news) (b2 : s.heap.IsList l2 us.toArray) (hi' : IntsAre us ns) (hu : A.units + 64 < cLine) (h : Q (.bool true) s) :
    wpAny (model prog w) A (compareOp .Eq (.ref t1) (.ref t2)) Q E s :=
  eq_num N a1 a2 hi b1 b2 hi' hu (by rw [decide_eq_true rfl]; exact h)
theorem boolA {p : Prop} [Decidable p] {x : Int} (h : p ↔ x = 0) : decide p = (x == 0) := by
  by_cases hx : x = 0
  · rw [decide_eq_true (h.mpr hx), hx]
    rfl
  · rw [decide_eq_false (fun hp => hx (h.mp hp))]
    exact (beq_eq_false_iff_ne.mpr hx).symm
theorem boolB {p : Prop} [Decidable p] {x : Int} (h : p ↔ x = 0) : decide p = decide (x = 0) := by
  by_cases hx : x = 0
  · rw [decide_eq_true (h.mpr hx), decide_eq_true hx]
  · rw [decide_eq_false (fun hp => hx (h.mp hp)), decide_eq_false hx]
theorem ne_boolF {c d : Bool} {Q : Value → Shared → Prop} (e : c = d) (h : Q (.bool false) s) : wpAny (model prog w) A (compareOp .NotEq (.bool c) (.bool d)) Q E s :=
  ne_bool (by subst e; rw [bne_self_eq_false]; exact h)
end
end Mine
end
section
theorem Mine.resetL3 : True := by
  k_with_none
  w_top off
  trivial
open PySem PySem.W PyProof.Rows PySem.Calls
set_option Elab.async false
set_option maxRecDepth 100000
set_option maxHeartbeats 600000
namespace Mine
/-- the frame's map: the limbs' bits and the exponent first -/
abbrev twoM (b e : Int) (tb te : Tok) (m₁ : PySem.Str → Option Value) : PySem.Str → Option Value := fun z => if z = PySem.Str.ofString "w" then some (.int b tb) else if z = PySem.Str.ofString "exponent" then some (.int e te) else m₁ z
theorem twoM_eq {b e : Int} {tb te : Tok} {m : PySem.Str → Option Value} (h1 : m (PySem.Str.ofString "w") = some (.int b tb)) (h2 : m (PySem.Str.ofString "exponent") = some (.int e te)) : m = twoM b e tb te m := by
  funext z
  by_cases hz : z = PySem.Str.ofString "w"
  · subst hz
    exact h1
  · by_cases hy : z = PySem.Str.ofString "exponent"
    · subst hy
      exact h2
    · exact ((if_neg hz).trans (if_neg hy)).symm
/-- one turn of the law's loop, whatever the limbs' bits, the exponent, the rest of the frame -/
def TurnG (prog : Program) (w : World) (A : Around) (h₀ : Heap) (env : Env) (body : List Stmt) : Prop :=
  ∀ (E : Value → Shared → Prop) (s : Shared) (Q : Flow → Shared → Prop) (b e : Int) (c0 : List Int × Int) (tb te : Tok) (m₁ : PySem.Str → Option Value) (news : List (Addr × Obj)), 3 ≤ b ∧ b ≤ 8 →
    ∀ (tw lw : Addr) (vw : List Value) (kw : Nat) (W : List Int) (D : Int) (tD : Tok) (tl own rest : List (Addr × Obj)) (pre : List Int) (one : Int) (t1 : Tok) (u : PySem.Str → Option Value) (h : Heap) (tk : Tok),
      rest = news ++ (tl ++ own) → KdSep own tl (news.map (·.1)) → ∀ (r1 r2 : List Int), LawAtR b e W one r1 r2 → (W, D) = pre.foldl (lawStep b e) c0 → LawFacts (news ++ tl) ⟨tw, W, D, tD⟩ → IntsAre vw W →
      Fr h₀ env.locals h (fun y => if y = PySem.Str.ofString "one" then some (.int one t1) else kstB (fun z => if lawTemps.contains z then u z else twoM b e tb te m₁ z) [(PySem.Str.ofString "whole", .ref tw), (PySem.Str.ofString "degrees", .int D tD)] y) →
      News h₀ env.locals h ((tw, numO lw) :: (lw, listOf vw.toArray kw) :: rest) →
      wpAny (model prog w) A (execs body env) (InvPostG h₀ env.locals (lawJ b e c0 news (twoM b e tb te m₁) (pre ++ [one])) own { s with heap := h, toks := tk } Q) E { s with heap := h, toks := tk }
section
variable {prog : Program} {w : World} {A : Around} {E : Value → Shared → Prop} {s : Shared} {env : Env} {h₀ : Heap} {body : List Stmt} {Q : Flow → Shared → Prop}
theorem law_split {m : PySem.Str → Option Value} {s1 s2 s3 s5 : Stmt} {tg it : PySem.Expr} {orelse : List Stmt} {pos : Pos} (_ : Fr h₀ env.locals s.heap m) (turn : TurnG prog w A h₀ env body)
    (cont : TurnG prog w A h₀ env body → wpAny (model prog w) A (execs [s1, s2, s3, .For tg it body orelse pos, s5] env) Q E s) : wpAny (model prog w) A (execs [s1, s2, s3, .For tg it body orelse pos, s5] env) Q E s := cont turn
theorem law_loopY (turnG : TurnG prog w A h₀ env body) {l : Addr} {vs : List Value} {nn : Nat} {mc : PySem.Str → Option Value} {news : List (Addr × Obj)} {b e x : Int} {t0 : Addr} {td tb te : Tok}
    (hh : A.handled = none) (hl : (l, listOf vs.toArray nn) ∈ news) (hi : IntsAre vs (noprodL e)) (F : Fr h₀ env.locals s.heap mc) (N : News h₀ env.locals s.heap news)
    (hn : NumIn news t0 (limbsL x b)) (hm1 : mc (PySem.Str.ofString "whole") = some (.ref t0)) (hm2 : mc (PySem.Str.ofString "degrees") = some (.int 0 td)) (hw : mc (PySem.Str.ofString "w") = some (.int b tb)) (he : mc (PySem.Str.ofString "exponent") = some (.int e te)) (hb : 3 ≤ b ∧ b ≤ 8) (hcase : (e = 2 ∧ x = 18) ∨ (e = 3 ∧ x = 258) ∨ (e = 4 ∧ x = 65538))
    (done : ∀ (tw lw : Addr) (vw : List Value) (kw : Nat) (tD : Tok) (tl rest : List (Addr × Obj)) (u : PySem.Str → Option Value) (h : Heap) (tk : Tok), rest = news ++ tl → IntsAre vw [1] →
      Fr h₀ env.locals h (fun y => if y = PySem.Str.ofString "one" then u y else kstB (fun z => if lawTemps.contains z then u z else twoM b e tb te mc z) [(PySem.Str.ofString "whole", .ref tw), (PySem.Str.ofString "degrees", .int (2 ^ e.toNat) tD)] y) →
      News h₀ env.locals h ((tw, numO lw) :: (lw, listOf vw.toArray kw) :: rest) → Q .next { s with heap := h, toks := tk }) :
    wpAny (model prog w) A (pyIter (.ref l)) (fun it s₂ => LoopAtV prog w A h₀ env (PySem.Str.ofString "one") body Q E it s₂) E s := by
  have hm := twoM_eq hw he
  have F2 : Fr h₀ env.locals s.heap (twoM b e tb te mc) := hm.subst (motive := fun m => Fr h₀ env.locals s.heap m) F
  exact law_loopX hh hl hi F2 N hn ((congrFun hm _).symm.trans hm1) ((congrFun hm _).symm.trans hm2) hb hcase (turnG E s Q b e _ tb te mc news hb) done
end
end Mine
end
theorem Mine.resetLW : True := by
  k_with_none
  w_top off
  trivial
open PySem PySem.W PyProof.Rows PySem.Calls Mine
set_option Elab.async false
set_option maxRecDepth 100000
set_option maxHeartbeats 8000000
local macro_rules | `(tactic| walk_at "call ref") => `(tactic| k_extra "mine call ref")
local macro_rules | `(tactic| walk_at "compareOp Eq ref ref") => `(tactic| k_extra "mine compareOp Eq ref ref")
local macro_rules | `(tactic| walk_at "compareOp NotEq bool bool") => `(tactic| k_extra "mine compareOp NotEq bool bool")
local macro_rules | `(tactic| walk_at "execs cons") => `(tactic| k_extra "mine execs cons")
theorem PySem.Challenge.cw_xm0437_01_holds : PySem.Challenge.rw_xm0437_01.Holds :=
  Mine.hd (by
  k_go0
  (all_goals try k_fold)
  have kMk := kstMark
  k_with "mine call ref" => (k_here; (with_reducible show wpAny _ _ (call (Value.ref 159) [Value.int _ _, Value.int _ _]) _ _ _); k_dflt (refine' use_num (by k_asm) (by k_asm) (by k_asm) (by k_asm) (by k_asm) (by first | exact rfl | assumption) (lsigned_t (by first | with_reducible assumption | exact fm6 _ | decide) (by first | omega | decide)) (by first | ktr_room | decide) (by first | ktr_units | decide) ?_); intro t' l' vs' n' h' tk' F' N' l1 l2 hI'; (try k_lt l1); (try k_lt l2); (try k_sweep); (try k_fold))
  k_with "mine call ref" => (k_here; (with_reducible show wpAny _ _ (call (Value.ref 178) [Value.int _ _]) _ _ _); k_dflt (refine' use_list (by k_asm) (by k_asm) (by k_asm) (by k_asm) (by k_asm) (by first | exact rfl | assumption) (noprod_t (by omega)) (by first | ktr_room | decide) (by first | ktr_units | decide) ?_); intro l' vs' n' h' tk' F' N' l1 hI'; (try k_lt l1); (try k_sweep); (try k_fold))
  k_with "mine call ref" => (k_here; (with_reducible show wpAny _ _ (call (Value.ref 166) [Value.ref _, Value.int _ _]) _ _ _); (k_dflt (refine' use_int (by k_asm) (by k_asm) (by k_asm) (by k_asm) (by k_asm) (by first | exact rfl | assumption) (plain_t (by k_mem) (by k_mem) (by l_ints) (by omega) (by first | with_reducible assumption | exact fm6 _ | decide)) (by first | ktr_room | decide) (by first | ktr_units | decide) ?_)); intro t' h' tk' F' N'; (try k_sweep); (try k_fold))
  k_with "mine call ref" => (k_here; (with_reducible show wpAny _ _ (call (Value.ref 173) [Value.int _ _, Value.int _ _]) _ _ _); (k_dflt (refine' use_int (by k_asm) (by k_asm) (by k_asm) (by k_asm) (by k_asm) (by first | exact rfl | assumption) (product_t (by omega)) (by first | ktr_room | decide) (by first | ktr_units | decide) ?_)); intro t' h' tk' F' N'; (try k_sweep); (try k_fold))
  k_with "mine call ref" => (k_here; (with_reducible show wpAny _ _ (call (Value.ref 185) [Value.ref _, Value.ref _, Value.int _ _]) _ _ _); (k_dflt (refine' use_par (by k_asm) (by k_asm) (by k_asm) (by k_asm) (by k_asm) (by first | exact rfl | assumption) (parted_tR (by k_mem) (by k_mem) (by l_ints) (by k_mem) (by k_mem) (by l_ints) (by first | with_reducible assumption | exact fm6 _ | decide) (by with_reducible assumption) (by exact limbsL_ok (by first | with_reducible assumption | exact fm6 _ | decide) (by omega)) (by omega) (by with_reducible assumption) (by with_reducible assumption)) (by first | ktr_room | decide) (by first | ktr_units | decide) ?_)); intro t' tf lf tn ln vf vn kf kn h' tk' F' N' n1 n2 hI1 hI2; (try k_sweep); (try k_fold))
  k_with "mine compareOp Eq ref ref" => (k_here; (with_reducible show wpAny _ _ (compareOp CmpOp.Eq (Value.ref _) (Value.ref _)) _ _ _); k_dflt (first | (refine' eq_numT (by k_asm) (by k_mem) (by is_list) (by l_ints) (by k_mem) (by is_list) (by l_ints) (by ke_room) ?_) | (refine' eq_num (by k_asm) (by k_mem) (by is_list) (by l_ints) (by k_mem) (by is_list) (by l_ints) (by ke_room) ?_)))
  k_with "mine compareOp NotEq bool bool" => (k_here; (refine' ne_boolF (by k_dflt first | exact boolA (by with_reducible assumption) | exact boolB (by with_reducible assumption)) ?_))
  k_with "mine execs cons" =>
    k_here
    fail_if_success (rename TurnG _ _ _ _ _ => tgX)
    with_reducible show wpAny _ _ (execs [_, _, _, PySem.Stmt.For _ _ _ _ _, _] _) _ _ _
    rename Fr _ _ _ _ => lF'
    rename News _ _ _ _ => lN'
    k_dflt refine' law_split lF' ?tg ?ct
    case' tg =>
      clear lF' lN'
      unfold TurnG
      intro E s Q b e c0 tb te m₁ news hb tw lw vw kw W D tD tl own rest pre one t1 u h tk hrest hsep r1 r2 hat hP hF hIw hFr hN
      have hrun := hat.run
      have hlen := hat.len
      have hlim := hat.limbs
      have hdlen := hat.dlen
      have hrng := hat.rng
      have hdeg := hat.deg
      have hf1 := hat.f1
      have hf2 := hat.f2
      have heq := hat.eq
      have hiff := hat.iff
      try k_fold
    case' ct => intro turnG
  k_with "pyIter ref" =>
    with_reducible show wpAny _ _ (pyIter (Value.ref _)) (fun it s₂ => LoopAtV _ _ _ _ _ (PySem.Str.ofString "one") _ _ _ it s₂) _ _
    rename Fr _ _ _ _ => lF'
    rename News _ _ _ _ => lN'
    k_dflt refine' law_loopY (by with_reducible assumption) (by rfl) (by k_mem) (by l_ints) lF' lN' (by exact ⟨_, _, _, by k_mem, by k_mem, by l_ints⟩) (by rfl) (by rfl) (by rfl) (by rfl) (by first | exact fm6 _ | decide) (by first | exact .inl (by decide) | exact .inr (.inl (by decide)) | exact .inr (.inr (by decide))) ?_
    intro tw lw vw kw tD tl rest u h tk hrest hIw hFr hN
    clear lF' lN'
    try k_fold
  k_steps
  · exact absurd heq (by assumption)
  · (rename Fr _ _ _ _ => F9); (rename News _ _ _ _ => N9)
    refine' law_end2 (vf := _) (kf := _) r1 (((baseText "0b" 2 one).length : Int) - 3) ?hF1 ?hg ?tf ?lf ?tD hrest hsep ?F ?N ?hs hP ?hc ?a1 ?a2 ?n1 ?n2 ?z1 ?hI ?hk ?hr
    case hF1 => rw [hat.run]
    case hg => rfl
    case F => exact F9
    case N => exact N9
    case hk => kst_all
    case a1 => k_mem
    case a2 => k_mem
    case n1 => assumption
    case n2 => assumption
    case hI => assumption
    case hs => intro p hp; simp only [List.mem_cons, hp, or_true]
    case z1 => intro p hp; simp only [List.mem_cons, hp, or_true]
    case hc => assumption
    case hr =>
      intro z h1 h2 h3
      have f1 : z ≠ PySem.Str.ofString "whole" := h2 _ (.head _)
      have f2 : z ≠ PySem.Str.ofString "degrees" := h2 _ (.tail _ (.head _))
      have f3 : z ≠ PySem.Str.ofString "degree" := by
        intro e
        subst e
        exact absurd h3 (by decide)
      have f4 : z ≠ PySem.Str.ofString "found" := by
        intro e
        subst e
        exact absurd h3 (by decide)
      have f5 : z ≠ PySem.Str.ofString "left" := by
        intro e
        subst e
        exact absurd h3 (by decide)
      simp only [f1, f2, f3, f4, f5, h1, if_false, kstB, h3, Bool.false_eq_true]
  · (rename Fr _ _ _ _ => F9); (rename News _ _ _ _ => N9)
    refine' law_end tw tD hrest hsep ?F ?N ?hs hF hP ?hc ?hk ?hr
    case F => exact F9
    case N => exact N9
    case hk => kst_all
    case hs => intro p hp; simp only [List.mem_cons, hp, or_true]
    case hc => assumption
    case hr =>
      intro z h1 h2 h3
      have f1 : z ≠ PySem.Str.ofString "whole" := h2 _ (.head _)
      have f2 : z ≠ PySem.Str.ofString "degrees" := h2 _ (.tail _ (.head _))
      have f3 : z ≠ PySem.Str.ofString "degree" := by
        intro e
        subst e
        exact absurd h3 (by decide)
      have f4 : z ≠ PySem.Str.ofString "found" := by
        intro e
        subst e
        exact absurd h3 (by decide)
      have f5 : z ≠ PySem.Str.ofString "left" := by
        intro e
        subst e
        exact absurd h3 (by decide)
      simp only [f1, f2, f3, f4, f5, h1, if_false, kstB, h3, Bool.false_eq_true])
