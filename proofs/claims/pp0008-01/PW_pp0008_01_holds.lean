import PyProof.Rows.All
import Wide.All
import OpenK.AllK
import Wide.FinOn
import Lean
import PySem.Challenge.RW_pp0008_01
open PySem PySem.W PyProof.Rows PySem.Calls PySem.Spec
set_option linter.unusedVariables false
set_option maxRecDepth 100000
set_option compiler.extract_closed false
set_option Elab.async true
namespace Mine
theorem h0.tw3091050511159368115 : True := True.intro
def mark : Prop := True
theorem mark_of (h : PySem.Challenge.rw_pp0008_01.row.Holds) : mark = True := rfl
set_option maxHeartbeats 8000000 in
theorem h0 : mark ∧ (True ∧ True) := by
  simp (disch := (w_on; k_head)) only [mark_of, and_true]
  w_top off
  trivial
end Mine
set_option Elab.async false
section
open PySem PySem.W PyProof.Rows PySem.Calls PySem.Spec
namespace Mine
theorem memH {α : Type} {a : α} {l : List α} : a ∈ a :: l := .head _
theorem memT {α : Type} {a b : α} {l : List α} (h : a ∈ l) : a ∈ b :: l := .tail _ h

/-- a key that is an int or a str -/
def mixIs : Int ⊕ Str → Value → Bool
  | .inl i, v => Value.isInt i v
  | .inr x, v => Value.isStrOf x v
def mixHash (w : World) : Int ⊕ Str → Int
  | .inl i => hashInt i
  | .inr x => hashStr w x
theorem mix_eqBool {prog : Program} {w : World} {A : Around} {E : Value → Shared → Prop} {s : Shared} {a b : Int ⊕ Str} {u v : Value} {Q : Bool → Shared → Prop}
    (hu : mixIs a u = true) (hv : mixIs b v = true) (h : Q (decide (a = b)) s) : wpAny (model prog w) A (PySem.eqBool u v) Q E s := by
  cases a with
  | inl i =>
    obtain ⟨t, rfl⟩ := Value.isInt_shape (show Value.isInt i u = true from hu)
    cases b with
    | inl j =>
      obtain ⟨t', rfl⟩ := Value.isInt_shape (show Value.isInt j v = true from hv)
      refine wpAny_eqBool_int ?_
      have e : (i == j) = decide ((Sum.inl i : Int ⊕ Str) = Sum.inl j) := by
        by_cases h : i = j <;> simp [h]
      rw [e]; exact h
    | inr y =>
      obtain ⟨t', rfl⟩ := Value.isStrOf_shape (show Value.isStrOf y v = true from hv)
      have e : decide ((Sum.inl i : Int ⊕ Str) = Sum.inr y) = false := by simp
      rw [e] at h
      unfold PySem.eqBool
      try with_reducible refine wpAny_holding ?_
      show wpAny _ _ (if (Value.int i t == Value.str y t') = true then _ else _) Q E s
      rw [if_neg (by intro q; have := eq_of_beq q; cases this)]
      exact wpAny_bind (PySem.EqMixed.eq_int_str (wpAny_truthy_bool h))
  | inr x =>
    obtain ⟨t, rfl⟩ := Value.isStrOf_shape (show Value.isStrOf x u = true from hu)
    cases b with
    | inl j =>
      obtain ⟨t', rfl⟩ := Value.isInt_shape (show Value.isInt j v = true from hv)
      have e : decide ((Sum.inr x : Int ⊕ Str) = Sum.inl j) = false := by simp
      rw [e] at h
      unfold PySem.eqBool
      try with_reducible refine wpAny_holding ?_
      show wpAny _ _ (if (Value.str x t == Value.int j t') = true then _ else _) Q E s
      rw [if_neg (by intro q; have := eq_of_beq q; cases this)]
      exact wpAny_bind (PySem.EqMixed.eq_str_int (wpAny_truthy_bool h))
    | inr y =>
      obtain ⟨t', rfl⟩ := Value.isStrOf_shape (show Value.isStrOf y v = true from hv)
      refine wpAny_eqBool_str ?_
      have e : decide (x = y) = decide ((Sum.inr x : Int ⊕ Str) = Sum.inr y) := by
        by_cases h : x = y <;> simp [h]
      rw [e]; exact h
def mixKind (prog : Program) (w : World) : KeyKind prog w (Int ⊕ Str) where
  is := mixIs
  hash := mixHash w
  inj := fun v a b ha hb => by
    cases a with
    | inl i =>
      obtain ⟨t, rfl⟩ := Value.isInt_shape (show Value.isInt i v = true from ha)
      cases b with
      | inl j => exact congrArg _ (Value.isInt_inj (.int i t) i j (show Value.isInt i (.int i t) = true from ha) (show Value.isInt j (.int i t) = true from hb))
      | inr y => cases hb
    | inr x =>
      obtain ⟨t, rfl⟩ := Value.isStrOf_shape (show Value.isStrOf x v = true from ha)
      cases b with
      | inl j => cases hb
      | inr y => exact congrArg _ (Value.isStrOf_inj (.str x t) x y (show Value.isStrOf x (.str x t) = true from ha) (show Value.isStrOf y (.str x t) = true from hb))
  byValue := fun k v h => by
    cases k with
    | inl i => obtain ⟨t, rfl⟩ := Value.isInt_shape (show Value.isInt i v = true from h); rfl
    | inr x => obtain ⟨t, rfl⟩ := Value.isStrOf_shape (show Value.isStrOf x v = true from h); rfl
  pyHash := fun {A E s k v Q} hv h => by
    cases k with
    | inl i => obtain ⟨t, rfl⟩ := Value.isInt_shape (show Value.isInt i v = true from hv); exact wpAny_pyHash_int h
    | inr x => obtain ⟨t, rfl⟩ := Value.isStrOf_shape (show Value.isStrOf x v = true from hv); exact wpAny_pyHash_str h
  eqBool := fun hu hv h => mix_eqBool hu hv h
  «strs» := fun k x t v h => by
    cases k with
    | inl i => simp [mixIs, Value.isInt] at h
    | inr y =>
      have e : x = y := by simpa [mixIs, Value.isStrOf] using h
      subst e
      show Value.isStrOf x v = v.isStr x
      exact (PySem.strKind prog w).«strs» x x t v (by show Value.isStrOf x (.str x t) = true; simp [Value.isStrOf])
end Mine
end
section
open PySem PySem.W PyProof.Rows PySem.Calls PySem.Spec
namespace Mine

/-- what the line lays down: the second type's parent; the way of a word at a type -/
structure Shape where
  p2 : Nat
  lay : Nat → Nat → Option Nat
def wn : Nat → Str
  | 0 => Str.ofString "far"
  | 1 => Str.ofString "one"
  | _ => Str.ofString "two"
def lt3 : Nat → Str
  | 0 => Str.ofString "a"
  | 1 => Str.ofString "b"
  | _ => Str.ofString "c"
def nm (x w : Nat) : Str := wn w ++ Str.ofString "#" ++ lt3 x
def places : Nat → List Int
  | 0 => [1, 2]
  | 1 => [0]
  | _ => [0, 1]
def parN (p2 : Nat) : Nat → Option Nat
  | 0 => none
  | 1 => some 0
  | _ => some p2
def near (p2 : Nat) (lay : Nat → Nat → Option Nat) (w : Nat) : Nat → Option Nat
  | 0 => if (lay 0 w).isSome then some 0 else none
  | 1 => if (lay 1 w).isSome then some 1 else if (lay 0 w).isSome then some 0 else none
  | _ => if (lay 2 w).isSome then some 2 else if p2 = 0 then (if (lay 0 w).isSome then some 0 else none) else
      (if (lay 1 w).isSome then some 1 else if (lay 0 w).isSome then some 0 else none)
def nearO (p2 : Nat) (lay : Nat → Nat → Option Nat) (w : Nat) : Option Nat → Option Nat
  | none => none
  | some t => near p2 lay w t
theorem near_hit {p2 : Nat} {lay : Nat → Nat → Option Nat} {w t : Nat} (ht : t < 3) (h : (lay t w).isSome = true) : near p2 lay w t = some t := by
  match t, ht with
  | 0, _ => simp [near, h]
  | 1, _ => simp [near, h]
  | 2, _ => simp [near, h]
theorem near_miss {p2 : Nat} {lay : Nat → Nat → Option Nat} {w t : Nat} (ht : t < 3) (hp : p2 < 2) (h : (lay t w).isSome = false) : near p2 lay w t = nearO p2 lay w (parN p2 t) := by
  match t, ht with
  | 0, _ => simp [near, h, nearO, parN]
  | 1, _ => simp [near, h, nearO, parN]
  | 2, _ =>
    match p2, hp with
    | 0, _ => simp [near, h, nearO, parN]
    | 1, _ => simp [near, h, nearO, parN]
theorem near_lt {p2 : Nat} {lay : Nat → Nat → Option Nat} {w t x : Nat} (h : near p2 lay w t = some x) : x < 3 ∧ (lay x w).isSome = true := by
  unfold near at h
  split at h <;> (repeat' (split at h)) <;> first | (cases h; exact ⟨by decide, by assumption⟩) | cases h
theorem parN_lt {p2 t q : Nat} (hp : p2 < 2) (ht : t < 3) (h : parN p2 t = some q) : q < t := by
  match t, ht with
  | 0, _ => cases h
  | 1, _ => cases h; decide
  | 2, _ => cases h; exact hp

/-- the answer that both sides give -/
def res (σ : Shape) (w : Nat) (c : Nat → Int) (p : Nat) : Str :=
  if 3 ≤ c p then Str.ofString "constraint_error" else
  match near σ.p2 σ.lay w (c p).toNat with
  | none => Str.ofString "constraint_error"
  | some x => if σ.lay x w = some 0 then Str.ofString "program_error" else
      if (places w).any (fun k => decide (c k.toNat < 3) && decide (c k.toNat ≠ c p)) then Str.ofString "constraint_error" else nm x w

/-- the dict of what is laid, by a ledger -/
structure LaidIn (prog : Program) (w : World) (news : List (Addr × Obj)) (ld : Addr) (xs : List (List (Int ⊕ Str) × Addr × Value)) : Prop where
  obj : ∃ o es ep, (ld, o) ∈ news ∧ o.ExactDict ∧ o.data = .dict es ep ∧ es.toList = xs.map (entryOfKey (tupleKind (mixKind prog w)))
  keys : ∀ x ∈ xs, ∃ o items n, (x.2.1, o) ∈ news ∧ o.cls = .type "tuple" ∧ o.data = .seq items n ∧ PySem.ItemsAre (mixKind prog w) x.1 items.toList
  nodup : (xs.map (·.1)).Nodup
theorem LaidIn.dictOfH {prog : Program} {w : World} {news : List (Addr × Obj)} {ld : Addr} {xs : List (List (Int ⊕ Str) × Addr × Value)} (H : LaidIn prog w news ld xs) {h₀ h : Heap} {L : Addr} (N : News h₀ L h news) :
    h.DictOfH (tupleKind (mixKind prog w)) ld xs := by
  obtain ⟨o, es, ep, hm, hc, hd, he⟩ := H.obj
  refine ⟨o, es, ep, (N _ hm).1, hc, hd, he, fun x hx => ?_, H.nodup⟩
  obtain ⟨o', items, n, hm', hc', hd', hi'⟩ := H.keys x hx
  exact ⟨o', items, n, (N _ hm').1, hc', hd', hi'⟩
theorem LaidIn.mono {prog : Program} {w : World} {news news' : List (Addr × Obj)} {ld : Addr} {xs : List (List (Int ⊕ Str) × Addr × Value)} (H : LaidIn prog w news ld xs) (k : ∀ p ∈ news, p ∈ news') : LaidIn prog w news' ld xs :=
  ⟨let ⟨o, es, ep, hm, r⟩ := H.obj; ⟨o, es, ep, k _ hm, r⟩, fun x hx => let ⟨o, i, n, hm, r⟩ := H.keys x hx; ⟨o, i, n, k _ hm, r⟩, H.nodup⟩
def lkey (t w : Nat) : List (Int ⊕ Str) := [.inl (t : Int), .inr (wn w)]
/-- the entries of what is laid answer as the shape says -/
def LaidSays (lay : Nat → Nat → Option Nat) (xs : List (List (Int ⊕ Str) × Addr × Value)) : Prop :=
  ∀ t w, t < 3 → w < 3 → (atKey xs (lkey t w)).map (·.2) = (lay t w).map fun k => Value.bool (decide (0 < k))
theorem LaidSays.isSome {lay : Nat → Nat → Option Nat} {xs : List (List (Int ⊕ Str) × Addr × Value)} (H : LaidSays lay xs) {t w : Nat} (ht : t < 3) (hw : w < 3) : (atKey xs (lkey t w)).isSome = (lay t w).isSome := by
  have := congrArg Option.isSome (H t w ht hw)
  simpa using this
theorem LaidSays.get {lay : Nat → Nat → Option Nat} {xs : List (List (Int ⊕ Str) × Addr × Value)} (H : LaidSays lay xs) {t w k : Nat} (ht : t < 3) (hw : w < 3) (hk : lay t w = some k) :
    ∃ p, atKey xs (lkey t w) = some p ∧ p.2 = Value.bool (decide (0 < k)) := by
  have := H t w ht hw
  rw [hk] at this
  obtain ⟨p, hp, hv⟩ := Option.map_eq_some_iff.mp this
  exact ⟨p, hp, hv⟩
end Mine
end
section
open PySem PySem.W PyProof.Rows PySem.Calls PySem.Spec
namespace Mine

local macro_rules | `(tactic| cell_enter) => `(tactic| (refine' code_defC (by k_asm) (by k_asm) (by k_asm) (by k_asm) (by k_asm) (by exact rfl) (by exact rfl) (by assumption) (by k_is) (by k_is) (by ktr_room) (by exact BindsTo.of_eq rfl) (by exact rfl) (by decide +kernel) ?_ (by exact rfl) (by exact rfl) (by exact rfl); k_whole; intro _ _ _ _ _ _ _ N' Y' B' _ _ _; k_cells Y'; (try simp only [List.cons_append, List.nil_append] at N'); (try dsimp only); (try k_lift B'); (try k_fold)))
local macro_rules | `(tactic| k_mem) => `(tactic| first | with_reducible exact memH | (with_reducible refine' memT ?_; k_mem) | with_reducible assumption)
theorem item_led {prog : Program} {w : World} {A : Around} {E : Value → Shared → Prop} {s : Shared} {h₀ : Heap} {L l : Addr} {news : List (Addr × Obj)} {vs : List Value} {n : Nat} {k : Int} {u : Tok} {v : Value} {value slice : Expr} {Q : Value → Shared → Prop}
    (N : News h₀ L s.heap news) (hm : (l, W.listOf vs.toArray n) ∈ news) (h0 : 0 ≤ k) (hfit : k < 2 ^ 63) (hx : vs[k.toNat]? = some v) (h : Q v s)
    (hs : subscripted slice false (.ref l) (.int k u) = operate [.ref l, .int k u] (getItem (.ref l) (.int k u)) := by with_unfolding_all rfl) (hg : ∀ r, letTemporaryGo value (.ref l) r = pure () := by intro _; with_unfolding_all rfl) :
    wpAny (model prog w) A (subscriptTail value slice (.ref l) (.int k u)) Q E s :=
  item_list (items := vs.toArray) ⟨_, (N _ hm).1, rfl, ⟨_, rfl⟩⟩ h0 hfit (by simpa using hx) h hs hg
local macro_rules | `(tactic| walk_at "subscriptTail Name Name ref int") => `(tactic| (k_here; (with_reducible show wpAny _ _ (subscriptTail _ _ (Value.ref _) (Value.int _ _)) _ _ _); k_dflt (refine' item_led (by k_asm) (by k_mem) (by omega) (by omega) (by assumption) ?_; k_whole)))
def tagv (c : Int) (t : Tok) : Value := if c < 3 then .int c t else .none
def rankO : Option Nat → Nat
  | none => 0
  | some t => t + 1
def AtStep (h₀ : Heap) (L : Addr) (s : Shared) (m : Str → Option Value) (news : List (Addr × Obj)) (x : Str) (val : Option Nat → Tok → Value) (P : Option Nat → Prop) (Q : Flow → Shared → Prop) (n : Nat) (f : Flow) (s₃ : Shared) : Prop :=
  match f with
  | .next | .cont => ∃ h' tk m' news' av t, s₃ = { s with heap := h', toks := tk } ∧ Fr h₀ L h' m' ∧ News h₀ L h' news' ∧ (∀ p ∈ news, p ∈ news') ∧ m' x = some (val av t) ∧ (∀ y, y ≠ x → m' y = m y) ∧ rankO av < n ∧ P av
  | .brk => Q .next s₃
  | .ret v => Q (.ret v) s₃
/-- a while over one name that walks up the line -/
theorem While_at {prog : Program} {w : World} {A : Around} {E : Value → Shared → Prop} {Q : Flow → Shared → Prop} {s : Shared} {env : Env} {h₀ : Heap} {L : Addr} {test : Expr} {body : List Stmt} {pos : Pos} {m : Str → Option Value} {news : List (Addr × Obj)} {v₀ : Value}
    (x : Str) (val : Option Nat → Tok → Value) (P : Option Nat → Prop) (av₀ : Option Nat) (t₀ : Tok)
    (F : Fr h₀ L s.heap (fun y => if y = x then some v₀ else m y)) (N : News h₀ L s.heap news) (hv : v₀ = val av₀ t₀) (hP : P av₀)
    (turn : ∀ av t h tk, P av → Fr h₀ L h (fun y => if y = x then some (val av t) else m y) → News h₀ L h news →
      wpAny (model prog w) A (isTrue test env (eval test env)) (fun b s₂ =>
        if b = true then wpAny (model prog w) A (execs body env) (AtStep h₀ L s m news x val P Q (rankO av)) E s₂ else Q .next s₂) E { s with heap := h, toks := tk })
    (hE : PassesOwn (model prog w) A env E := by passes_own) :
    wpAny (model prog w) A (exec (.While test body [] pos) env) Q E s := by
  subst hv
  refine While_inv2 (fun n m' nx => ∃ av t, rankO av = n ∧ nx = news ∧ m' = (fun y => if y = x then some (val av t) else m y) ∧ P av) F N ⟨av₀, t₀, rfl, rfl, rfl, hP⟩ ?_ hE
  rintro n m₁ nx h tk F₁ N₁ ⟨av, t, hr, rfl, rfl, hp⟩
  subst hr
  refine wpAny_mono (turn av t h tk hp F₁ N₁) (fun b s₂ p => ?_) fun _ _ z => z
  cases b with
  | false => simpa using p
  | true =>
    simp only [if_true] at p ⊢
    refine wpAny_mono p (fun f s₃ q => ?_) fun _ _ z => z
    have key : (∃ h' tk m' news' av' t, s₃ = { s with heap := h', toks := tk } ∧ Fr h₀ L h' m' ∧ News h₀ L h' news' ∧ (∀ p ∈ nx, p ∈ news') ∧ m' x = some (val av' t) ∧ (∀ y, y ≠ x → m' y = m y) ∧ rankO av' < rankO av ∧ P av') →
        ∃ h' tk m₂ news₂ n', s₃ = { s with heap := h', toks := tk } ∧ Fr h₀ L h' m₂ ∧ News h₀ L h' news₂ ∧ n' < rankO av ∧ ∃ av t, rankO av = n' ∧ news₂ = nx ∧ m₂ = (fun y => if y = x then some (val av t) else m y) ∧ P av := by
      rintro ⟨h', tk', m', news', av', t', e, F', N', hn, hx, hy, hlt, hP'⟩
      have em : m' = fun y => if y = x then some (val av' t') else m y := by
        funext y
        by_cases hyx : y = x
        · rw [hyx, hx]; simp
        · rw [hy y hyx]; simp [hyx]
      exact ⟨h', tk', m', nx, rankO av', e, F', fun p hp => N' p (hn p hp), hlt, av', t', rfl, rfl, em, hP'⟩
    cases f with
    | ret v => exact q
    | brk => exact q
    | next => exact key q
    | cont => exact key q
def atv (av : Option Nat) (t : Tok) : Value := match av with | none => .none | some q => .int (q : Nat) t
def tagO (c : Int) : Option Nat := if c < 3 then some c.toNat else none
theorem tagv_atv {c : Int} {t : Tok} (h : 0 ≤ c) : tagv c t = atv (tagO c) t := by
  unfold tagv tagO atv
  by_cases h3 : c < 3
  · simp only [if_pos h3]; rw [Int.toNat_of_nonneg h]
  · simp only [if_neg h3]
def parv (p2 : Nat) (k : Nat) (t : Tok) : Value := atv (parN p2 k) t



theorem three_get {α : Type} {f : Nat → α} {q : Nat} (hq : q < 3) : [f 0, f 1, f 2][((q : Nat) : Int).toNat]? = some (f q) := by
  match q, hq with
  | 0, _ => rfl
  | 1, _ => rfl
  | 2, _ => rfl
theorem place_lt {wd p : Nat} (hw : wd < 3) (hp : (p : Int) ∈ places wd) : p < 3 := by
  match wd, hw with
  | 0, _ => simp [places] at hp; omega
  | 1, _ => simp [places] at hp; omega
  | 2, _ => simp [places] at hp; omega
theorem res_none {σ : Shape} {wd p : Nat} {c : Nat → Int} (h : nearO σ.p2 σ.lay wd (tagO (c p)) = none) : res σ wd c p = Str.ofString "constraint_error" := by
  unfold res
  by_cases h3 : 3 ≤ c p
  · rw [if_pos h3]
  · rw [if_neg h3]
    have e : tagO (c p) = some (c p).toNat := by unfold tagO; rw [if_pos (by omega)]
    rw [e] at h
    rw [show near σ.p2 σ.lay wd (c p).toNat = none from h]
theorem near_of_O {σ : Shape} {wd p q : Nat} {c : Nat → Int} (h : nearO σ.p2 σ.lay wd (tagO (c p)) = some q) : ¬ 3 ≤ c p ∧ near σ.p2 σ.lay wd (c p).toNat = some q := by
  by_cases h3 : 3 ≤ c p
  · have e : tagO (c p) = none := by unfold tagO; rw [if_neg (by omega)]
    rw [e] at h
    cases h
  · have e : tagO (c p) = some (c p).toNat := by unfold tagO; rw [if_pos (by omega)]
    rw [e] at h
    exact ⟨h3, h⟩
theorem res_zero {σ : Shape} {wd p q : Nat} {c : Nat → Int} (h : nearO σ.p2 σ.lay wd (tagO (c p)) = some q) (hl : σ.lay q wd = some 0) : res σ wd c p = Str.ofString "program_error" := by
  obtain ⟨h3, hnc⟩ := near_of_O h
  unfold res
  rw [if_neg h3, hnc]
  simp only [hl, if_true]
theorem res_pos {σ : Shape} {wd p q kk : Nat} {c : Nat → Int} (h : nearO σ.p2 σ.lay wd (tagO (c p)) = some q) (hl : σ.lay q wd = some kk) (hk : 0 < kk) :
    res σ wd c p = if (places wd).any (fun k => decide (c k.toNat < 3) && decide (c k.toNat ≠ c p)) then Str.ofString "constraint_error" else nm q wd := by
  obtain ⟨h3, hnc⟩ := near_of_O h
  unfold res
  rw [if_neg h3, hnc]
  have : ¬ σ.lay q wd = some 0 := by rw [hl]; intro e; cases e; omega
  simp only [this, if_false]
theorem rank_par {p2 q : Nat} (hp : p2 < 2) (hq : q < 3) : rankO (parN p2 q) < rankO (some q) := by
  rcases h : parN p2 q with _ | r
  · exact Nat.succ_pos _
  · have := parN_lt hp hq h
    show r + 1 < q + 1
    omega
theorem tagO_lt {c : Int} (h : 0 ≤ c) {t : Nat} (ht : tagO c = some t) : t < 3 := by
  unfold tagO at ht
  split at ht
  · cases ht; omega
  · cases ht
theorem all_ne {S : List (Addr × Obj)} {b d : Addr} (h : ∀ p ∈ S, p.1 < b) (hbd : @LE.le Nat _ b d) : ∀ p ∈ S, p.1 ≠ d := fun p hp => Nat.ne_of_lt (Nat.lt_of_lt_of_le (h p hp) hbd)
theorem tagv_lt {c : Int} {t : Tok} (h : c < 3) : tagv c t = .int c t := if_pos h
theorem tagv_ge {c : Int} {t : Tok} (h : ¬ c < 3) : tagv c t = .none := if_neg h
theorem ne_known {prog : Program} {w : World} {A : Around} {E : Value → Shared → Prop} {s : Shared} {a b : Int} {t u : Tok} {v : Bool} {Q : Value → Shared → Prop} (hv : (a != b) = v) (h : Q (.bool v) s) :
    wpAny (model prog w) A (compareOp .NotEq (.int a t) (.int b u)) Q E s := ne_int (by rw [hv]; exact h)
theorem ne_nils {prog : Program} {w : World} {A : Around} {E : Value → Shared → Prop} {s : Shared} {h₀ : Heap} {L a b : Addr} {news : List (Addr × Obj)} {oa ob : Obj} {Q : Value → Shared → Prop} (N : News h₀ L s.heap news) (ha : (a, oa) ∈ news) (hb : (b, ob) ∈ news)
    (ea : oa.cls = .type "list" ∧ ∃ n, oa.data = .seq [].toArray n) (eb : ob.cls = .type "list" ∧ ∃ n, ob.data = .seq [].toArray n) (hu : A.units + 64 < cLine)
    (h : Q (.bool false) s) : wpAny (model prog w) A (compareOp .NotEq (.ref a) (.ref b)) Q E s :=
  ne_intsK (ns := []) (ms := []) ⟨_, (N _ ha).1, ea⟩ .nil ⟨_, (N _ hb).1, eb⟩ .nil hu h
theorem item_abc {q : Nat} (hq : q < 3) : Txt.item (Str.ofString "abc") (q : Int) = lt3 q := by
  match q, hq with
  | 0, _ => decide
  | 1, _ => decide
  | 2, _ => decide
theorem places_in {P : Params} {h : Heap} (X : (Mine.h0.heap_1_1 P).In h) : h.IsList 324 [Value.int 1 760, Value.int 2 761].toArray ∧ h.IsList 325 [Value.int 0 763].toArray ∧ h.IsList 326 [Value.int 0 765, Value.int 1 766].toArray :=
  ⟨⟨_, X 324 _ (by rfl), rfl, ⟨_, rfl⟩⟩, ⟨_, X 325 _ (by rfl), rfl, ⟨_, rfl⟩⟩, ⟨_, X 326 _ (by rfl), rfl, ⟨_, rfl⟩⟩⟩
/-! the dict of what is laid: its tests and reads -/
section
variable {prog : Program} {w : World} {A : Around} {E : Value → Shared → Prop} {s : Shared} {h₀ : Heap} {L ld a : Addr} {news news' : List (Addr × Obj)} {xs : List (List (Int ⊕ Str) × Addr × Value)} {lay : Nat → Nat → Option Nat} {q wd : Nat} {t t' : Tok} {n : Nat}
theorem isKey_of {h : Heap} (hm : h.get? a = some { cls := .type "tuple", data := .seq #[Value.int (q : Nat) t, Value.str (wn wd) t'] n }) : (tupleKind (mixKind prog w)).is h (lkey q wd) a :=
  ⟨_, _, n, hm, rfl, rfl, .cons (show Value.isInt (q : Nat) (.int (q : Nat) t) = true by simp [Value.isInt]) (.cons (show Value.isStrOf (wn wd) (.str (wn wd) t') = true by simp [Value.isStrOf]) .nil)⟩
theorem notin_laid {Q : Value → Shared → Prop} (N : News h₀ L s.heap news) (HL : LaidIn prog w news' ld xs) (sub : ∀ p ∈ news', p ∈ news) (lo : (ld == sysModules) = false)
    (hm : (a, ({ cls := .type "tuple", data := .seq #[Value.int (q : Nat) t, Value.str (wn wd) t'] n } : Obj)) ∈ news) (HS : LaidSays lay xs) (hq : q < 3) (hw : wd < 3) (hu : A.in1.units < cLine) (b : Bool) (hb : (lay q wd).isSome = b)
    (h : ∀ tk, Q (.bool (!b)) { s with toks := tk }) : wpAny (model prog w) A (compareOp .NotIn (.ref a) (.ref ld)) Q E s := by
  refine wpAny_notIn_heap (k := lkey q wd) (knd := tupleKind (mixKind prog w)) hu (isKey_of (N _ hm).1) lo ((HL.mono sub).dictOfH N) ?_
  rw [HS.isSome hq hw, hb]
  exact h _
theorem item_laid {value slice : Expr} {Q : Value → Shared → Prop} (N : News h₀ L s.heap news) (HL : LaidIn prog w news' ld xs) (sub : ∀ p ∈ news', p ∈ news)
    (hm : (a, ({ cls := .type "tuple", data := .seq #[Value.int (q : Nat) t, Value.str (wn wd) t'] n } : Obj)) ∈ news) (HS : LaidSays lay xs) (hq : q < 3) (hw : wd < 3) (hu : A.in1.units < cLine) {k : Nat} (hk : lay q wd = some k) (b : Bool) (hb : decide (0 < k) = b)
    (h : ∀ tk, Q (.bool b) { s with toks := tk })
    (hs : subscripted slice false (.ref ld) (.ref a) = operate [.ref ld, .ref a] (getItem (.ref ld) (.ref a)) := by with_unfolding_all rfl) (hg : ∀ r, letTemporaryGo value (.ref ld) r = pure () := by intro _; with_unfolding_all rfl) :
    wpAny (model prog w) A (subscriptTail value slice (.ref ld) (.ref a)) Q E s := by
  obtain ⟨p, hp, hv⟩ := HS.get hq hw hk
  have hD := (HL.mono sub).dictOfH N
  refine subscriptTail_builtin hD.typeIs slot_dict_getitem.lookup (wpAny_getItem_heap (k := lkey q wd) (knd := tupleKind (mixKind prog w)) hu (isKey_of (N _ hm).1) hD hp ?_) hs hg
  rw [hv, hb]
  exact h _
end
end Mine
end
section
open PySem PySem.W PyProof.Rows PySem.Calls PySem.Spec
namespace Mine
def Halt (P : Prop) : Prop := P
theorem halt {P : Prop} (h : Halt P) : P := h
/-! the places' dict and its lists -/
def plcA (i : Nat) : Addr := match i with | 0 => 324 | 1 => 325 | _ => 326
theorem w1_ {i : Nat} (hi : i < 3) : (wn i).length + (Str.ofString "#").length ≤ 16777216 := by
      rcases (by omega : i = 0 ∨ i = 1 ∨ i = 2) with rfl | rfl | rfl <;> decide +kernel
theorem w2_ {i K : Nat} (hi : i < 3) (hK : K < 3) : (wn i ++ Str.ofString "#").length + (Txt.item (Str.ofString "abc") (K : Int)).length ≤ 16777216 := by
  rw [item_abc hK]
  rcases (by omega : i = 0 ∨ i = 1 ∨ i = 2) with rfl | rfl | rfl <;> rcases (by omega : K = 0 ∨ K = 1 ∨ K = 2) with rfl | rfl | rfl <;> decide +kernel
theorem add_open {prog : Program} {w : World} {A : Around} {E : Value → Shared → Prop} {s : Shared} {x y : Str} {t u : Tok} {Q : Value → Shared → Prop} (hs : x.length + y.length ≤ 16777216) (h : ∀ t' k, Q (.str (x ++ y) t') { s with toks := k }) : wpAny (model prog w) A (binaryOp .Add (.str x t) (.str y u)) Q E s :=
  PyProof.Rows.add_str h hs
def plv (w : Nat) : List Value := match w with | 0 => [.int 1 760, .int 2 761] | 1 => [.int 0 763] | _ => [.int 0 765, .int 1 766]
/-- the places by number -/
def plk (w : Nat) : List Nat := match w with | 0 => [1, 2] | 1 => [0] | _ => [0, 1]
section
variable {w : World} {A : Around} {E : Value → Shared → Prop} {s : Shared} {h₀ : Heap} {L : Addr} {m : Str → Option Value} {news : List (Addr × Obj)} {i : Nat}
theorem places_item {value slice : PySem.Expr} {t : Tok} {Q : Value → Shared → Prop} (hi : i < 3) (F : Fr h₀ L s.heap m) (X : (Mine.h0.heap_1_1 w.params).In h₀) (h : Q (.ref (plcA i)) { s with toks := s.toks + 1 })
    (hs : subscripted slice false (.ref 323) (.str (wn i) t) = operate [.ref 323, .str (wn i) t] (getItem (.ref 323) (.str (wn i) t)) := by with_unfolding_all rfl) :
    wpAny (model PySem.Challenge.rw_pp0008_01.row.prog w) A (subscriptTail value slice (.ref 323) (.str (wn i) t)) Q E s := by
  revert X
  k_fill
  intro X
  rcases (by omega : i = 0 ∨ i = 1 ∨ i = 2) with rfl | rfl | rfl
  · refine' topItem_K (K := Mine.h0.heap_1_1 w.params) F X ?l ?k ?e h (hs := hs)
    case l => k_is
    case k => k_keys
    case e => k_is
  · refine' topItem_K (K := Mine.h0.heap_1_1 w.params) F X ?l ?k ?e h (hs := hs)
    case l => k_is
    case k => k_keys
    case e => k_is
  · refine' topItem_K (K := Mine.h0.heap_1_1 w.params) F X ?l ?k ?e h (hs := hs)
    case l => k_is
    case k => k_keys
    case e => k_is
theorem plc_is (hi : i < 3) {h : Heap} (X : (Mine.h0.heap_1_1 w.params).In h) : h.IsList (plcA i) (plv i).toArray := by
  obtain ⟨p1, p2, p3⟩ := places_in X
  rcases (by omega : i = 0 ∨ i = 1 ∨ i = 2) with rfl | rfl | rfl
  · exact p1
  · exact p2
  · exact p3
theorem plv_size : (plv i).toArray.size ≤ sizeLine := by
  rw [sizeLine_eq]
  unfold plv
  split <;> exact Nat.le_of_ble_eq_true rfl
theorem plk_lt (hi : i < 3) : ∀ k ∈ plk i, k < 3 := by
  rcases (by omega : i = 0 ∨ i = 1 ∨ i = 2) with rfl | rfl | rfl <;> decide
theorem plk_len (hi : i < 3) : (plk i).length ≤ 2 := by
  rcases (by omega : i = 0 ∨ i = 1 ∨ i = 2) with rfl | rfl | rfl <;> decide
theorem plm_size {f : Nat → Value} (hi : i < 3) : ((plk i).map f).toArray.size ≤ sizeLine := by
  have := plk_len hi
  rw [sizeLine_eq, List.size_toArray, List.length_map]
  omega
/-- ints by number, with tokens of their own -/
inductive Nums : List Value → List Nat → Prop
  | nil : Nums [] []
  | cons (k : Nat) (t : Tok) {vs : List Value} {ks : List Nat} : Nums vs ks → Nums (.int (k : Nat) t :: vs) (k :: ks)
theorem plv_nums (hi : i < 3) : Nums (plv i) (plk i) := by
  rcases (by omega : i = 0 ∨ i = 1 ∨ i = 2) with rfl | rfl | rfl
  · exact .cons 1 _ (.cons 2 _ .nil)
  · exact .cons 0 _ .nil
  · exact .cons 0 _ (.cons 1 _ .nil)
theorem plk_any (hi : i < 3) {f : Nat → Bool} : (places i).any (fun k => f k.toNat) = (plk i).any f := by
  rcases (by omega : i = 0 ∨ i = 1 ∨ i = 2) with rfl | rfl | rfl <;> rfl
end
section
variable {prog : Program} {w : World} {A : Around} {h₀ : Heap} {L : Addr} {m : Str → Option Value} {env : Env} {ct elt : Expr} {x : Str} {scope : Scope} {cl : List (Str × Addr)} {s : Shared} {S : List (Addr × Obj) → Prop} {P : Nat → Value → Prop} {Fin : List Value → List (Addr × Obj) → Prop} {news : List (Addr × Obj)}
/-- a comprehension with a test over ints, its step known -/
theorem restT_ind (hit : Nat → Bool) (step : ∀ (k : Nat) (t : Tok) (ys : List Value) (r1 r2 : Value → List (Addr × Obj) → Prop) I oI C oC D m₂ h tk (E' : Value → Shared → Prop), k < 3 → LCg.NsObj oC m₂ → m₂ x = some (.int (k : Nat) t) → Fr h₀ L h m → News h₀ L h ((I, oI) :: (C, oC) :: (D, LCg.lst ys) :: news) → LCg.Off3 I C D news → ((@Ne Nat I C) ∧ (@Ne Nat I D) ∧ (@Ne Nat C D)) →
      (hit k = true → r1 (.int (k : Nat) t) news) → (hit k = false → r2 .none news) →
      wpAny (model prog w) A (isTrue ct (compEnvC scope cl C env) (eval ct (compEnvC scope cl C env))) (fun ok s' => if ok = true then
        wpAny (model prog w) A (eval elt (compEnvC scope cl C env)) (LCg.CompEnd h₀ L m { s with heap := h, toks := tk } I oI C oC D (LCg.lst ys) S r1) E' s'
        else LCg.CompEnd h₀ L m { s with heap := h, toks := tk } I oI C oC D (LCg.lst ys) S r2 Value.none s') E' { s with heap := h, toks := tk }) :
    ∀ {its : List Value} {ks : List Nat} {i : Nat} {ys : List Value} {ns : List Int}, Nums its ks → (∀ k ∈ ks, k < 3) → (∀ j v, P (i + j) v → its[j]? = some v) → IntsAre ys ns → (∀ ys', IntsAre ys' (ns ++ (ks.filter hit).map fun (k : Nat) => (k : Int)) → Fin ys' news) →
    LCt.CompRestT prog w A h₀ L m env ct elt x scope cl s S P Fin its.length i ys news
  | _, _, i, ys, ns, .nil, _, _, hy, fin => LCt.CompRestT.zero (fin ys (by simpa using hy))
  | _, _, i, ys, ns, .cons k t (vs := vs) (ks := ks) r, h3, hP, hy, fin => by
    refine LCt.CompRestT.succ ?_
    intro v I oI C oC D m₂ h tk E' hv hC hx F N off ne
    obtain rfl : Value.int (k : Nat) t = v := Option.some.inj (hP 0 v hv)
    refine step k t ys _ _ I oI C oC D m₂ h tk E' (h3 k (.head _)) hC hx F N off ne (fun hh => ?_) (fun hh => ?_)
    · refine restT_ind hit step (ns := ns ++ [(k : Int)]) r (fun k hk => h3 k (.tail _ hk)) (fun j v hj => ?_) (IntsAre.append hy (.cons _ _ .nil)) (fun ys' hy' => fin ys' ?_)
      · have := hP (j + 1) v (by rw [show i + (j + 1) = i + 1 + j by omega]; exact hj)
        simpa using this
      · rw [List.filter_cons_of_pos hh, List.map_cons]
        simpa using hy'
    · refine restT_ind hit step (ns := ns) r (fun k hk => h3 k (.tail _ hk)) (fun j v hj => ?_) hy (fun ys' hy' => fin ys' ?_)
      · have := hP (j + 1) v (by rw [show i + (j + 1) = i + 1 + j by omega]; exact hj)
        simpa using this
      · rw [List.filter_cons_of_neg (p := hit) (by simp [hh])]
        exact hy'
/-- a comprehension without a test over ints, its step known -/
theorem restC_ind (val : Nat → Value) (step : ∀ (k : Nat) (t : Tok) (ys : List Value) (r1 : Value → List (Addr × Obj) → Prop) I oI C oC D m₂ h tk (E' : Value → Shared → Prop), k < 3 → LCg.NsObj oC m₂ → m₂ x = some (.int (k : Nat) t) → Fr h₀ L h m → News h₀ L h ((I, oI) :: (C, oC) :: (D, LCg.lst ys) :: news) → LCg.Off3 I C D news → ((@Ne Nat I C) ∧ (@Ne Nat I D) ∧ (@Ne Nat C D)) →
      r1 (val k) news → wpAny (model prog w) A (eval elt (compEnvC scope cl C env)) (LCg.CompEnd h₀ L m { s with heap := h, toks := tk } I oI C oC D (LCg.lst ys) S r1) E' { s with heap := h, toks := tk }) :
    ∀ {its : List Value} {ks : List Nat} {i : Nat} {ys : List Value}, Nums its ks → (∀ k ∈ ks, k < 3) → (∀ j v, P (i + j) v → its[j]? = some v) → Fin (ys ++ ks.map val) news →
    LCg.CompRest prog w A h₀ L m env elt x scope cl s S P Fin its.length i ys news
  | _, _, i, ys, .nil, _, _, fin => LCg.CompRest.zero (by simpa using fin)
  | _, _, i, ys, .cons k t (vs := vs) (ks := ks) r, h3, hP, fin => by
    refine LCg.CompRest.succ ?_
    intro v I oI C oC D m₂ h tk E' hv hC hx F N off ne
    obtain rfl : Value.int (k : Nat) t = v := Option.some.inj (hP 0 v hv)
    refine step k t ys _ I oI C oC D m₂ h tk E' (h3 k (.head _)) hC hx F N off ne ?_
    refine restC_ind val step r (fun k hk => h3 k (.tail _ hk)) (fun j v hj => ?_) ?_
    · have := hP (j + 1) v (by rw [show i + (j + 1) = i + 1 + j by omega]; exact hj)
      simpa using this
    · simpa using fin
/-- a comprehension with a test over values by number -/
theorem restV_ind (hit : Nat → Bool) (val out : Nat → Value) (step : ∀ (k : Nat) (ys : List Value) (r1 r2 : Value → List (Addr × Obj) → Prop) I oI C oC D m₂ h tk (E' : Value → Shared → Prop), k < 3 → LCg.NsObj oC m₂ → m₂ x = some (val k) → Fr h₀ L h m → News h₀ L h ((I, oI) :: (C, oC) :: (D, LCg.lst ys) :: news) → LCg.Off3 I C D news → ((@Ne Nat I C) ∧ (@Ne Nat I D) ∧ (@Ne Nat C D)) →
      (hit k = true → r1 (out k) news) → (hit k = false → r2 .none news) →
      wpAny (model prog w) A (isTrue ct (compEnvC scope cl C env) (eval ct (compEnvC scope cl C env))) (fun ok s' => if ok = true then
        wpAny (model prog w) A (eval elt (compEnvC scope cl C env)) (LCg.CompEnd h₀ L m { s with heap := h, toks := tk } I oI C oC D (LCg.lst ys) S r1) E' s'
        else LCg.CompEnd h₀ L m { s with heap := h, toks := tk } I oI C oC D (LCg.lst ys) S r2 Value.none s') E' { s with heap := h, toks := tk }) :
    ∀ {ks : List Nat} {i n : Nat} {ys : List Value}, n = ks.length → (∀ k ∈ ks, k < 3) → (∀ j v, P (i + j) v → (ks.map val)[j]? = some v) → Fin (ys ++ (ks.filter hit).map out) news →
    LCt.CompRestT prog w A h₀ L m env ct elt x scope cl s S P Fin n i ys news
  | [], i, _, ys, rfl, _, _, fin => LCt.CompRestT.zero (by simpa using fin)
  | k :: ks, i, _, ys, rfl, h3, hP, fin => by
    refine LCt.CompRestT.succ ?_
    intro v I oI C oC D m₂ h tk E' hv hC hx F N off ne
    obtain rfl : val k = v := Option.some.inj (hP 0 v hv)
    refine step k ys _ _ I oI C oC D m₂ h tk E' (h3 k (.head _)) hC hx F N off ne (fun hh => ?_) (fun hh => ?_)
    · refine restV_ind hit val out step rfl (fun k hk => h3 k (.tail _ hk)) (fun j v hj => ?_) ?_
      · have := hP (j + 1) v (by rw [show i + (j + 1) = i + 1 + j by omega]; exact hj)
        simpa using this
      · rw [List.filter_cons_of_pos hh] at fin
        simpa using fin
    · refine restV_ind hit val out step rfl (fun k hk => h3 k (.tail _ hk)) (fun j v hj => ?_) ?_
      · have := hP (j + 1) v (by rw [show i + (j + 1) = i + 1 + j by omega]; exact hj)
        simpa using this
      · rw [List.filter_cons_of_neg (p := hit) (by simp [hh])] at fin
        exact fin
end
end Mine
end
section
open PySem PySem.W PyProof.Rows PySem.Calls PySem.Spec
namespace Mine

local macro_rules | `(tactic| k_all) => `(tactic| assumption)
theorem st_at {c : Addr} {u v : Value} : stored [(Str.ofString "cells", Value.ref c), (Str.ofString "at", u)] (Str.ofString "at") v = [(Str.ofString "cells", Value.ref c), (Str.ofString "at", v)] := rfl
local macro_rules | `(tactic| walk_at "setItem ref str") => `(tactic| (k_here; k_dflt (refine' kda_set (knd := PySem.strKind _ _) (by k_asm) (by k_asm) (by k_updF) (by k_asm) (strKind_is _ _ _ _) (by rw [sizeLine_eq]; exact Nat.le_of_ble_eq_true (by with_unfolding_all rfl)) ?_); intro _ _ _ N' hd'; (try dsimp only at N'); rw [st_at] at hd'))
abbrev LW : List Str := [Str.ofString "UNSET", Str.ofString "Limits", Str.ofString "_law_places"]

set_option maxRecDepth 100000 in
set_option maxHeartbeats 8000000 in
theorem take_ok {w : World} {mean : ExcName → Option Value} {mg mb : Str → Option Value} {dp un : Nat} {gd : Option (List Code)} {cn : Str} {cs : Scope} {a : Addr} {ccd : Value} {cl : List (Str × Addr)} {outer : List Env} {A₀ : Around} {base h₀ : Heap} {L : Addr} {m : Str → Option Value} {s : Shared} {Q E : Value → Shared → Prop}
    {b c : Addr} {ob : Obj} {vs : List Value} {ns : List Int} {n k : Int} {t1 tk : Tok} {S : List (Addr × Obj)} {nc : Nat}
    (B : Below A₀ base outer h₀) (F : Fr h₀ L s.heap m) (X : (Mine.h0.heap_1_1 w.params).In h₀) (T : Top Mine.h0.view_1_2 (looseW Mine.h0.view_1_2 [Str.ofString "UNSET", Str.ofString "Limits", Str.ofString "_law_places"]) mean mg mb h₀) (hk : cs.kind = .function) (hd : dp + 1 < recursionLimit) (hu : un + 8 < cLine)
    (N : News h₀ L s.heap ((b, ob) :: (c, W.listOf vs.toArray nc) :: S))
    (hob : ob.IsDictOf (strKind PySem.Challenge.rw_pp0008_01.row.prog w) [(Str.ofString "cells", Value.ref c), (Str.ofString "at", Value.int n t1)])
    (hlo : (b == sysModules) = false)
    (hI : IntsAre vs ns) (hln : ns.length ≤ 60) (hn0 : 0 ≤ n) (hn1 : n < 1000) (hk0 : 0 < k) (hk1 : k < 1000)
    (hS : ∀ p ∈ S, p.1 ≠ b) (hbc : c ≠ b)
    (ret : ∀ (r : Int) (t t' : Tok) (h' : Heap) (tk' : Nat) (ob' : Obj), 0 ≤ r → r < k → Fr h₀ L h' m → News h₀ L h' ((b, ob') :: (c, W.listOf vs.toArray nc) :: S) →
      ob'.IsDictOf (strKind PySem.Challenge.rw_pp0008_01.row.prog w) [(Str.ofString "cells", Value.ref c), (Str.ofString "at", Value.int (n + 1) t')] → Q (.int r t) { s with heap := h', toks := tk' }) :
    wpAny (model PySem.Challenge.rw_pp0008_01.row.prog w) (ktrTop dp un gd cn cs L a ccd cl outer) (call (.ref 334) [.ref b, .int k tk]) Q E s := by
  revert X
  k_fill
  intro X
  refine wpAny_call ?_
  k_dflt cell_enter
  k_steps
  all_goals (refine ret _ _ _ _ _ _ (fmod_lo _ hk0) (fmod_hi _ hk0) (by assumption) (by assumption) (by assumption))
end Mine
end
section
open PySem PySem.W PyProof.Rows PySem.Calls PySem.Spec
namespace Mine
local macro_rules | `(tactic| cell_enter) => `(tactic| (refine' code_defC (by k_asm) (by k_asm) (by k_asm) (by k_asm) (by k_asm) (by exact rfl) (by exact rfl) (by assumption) (by k_is) (by k_is) (by ktr_room) (by exact BindsTo.of_eq rfl) (by exact rfl) (by decide +kernel) ?_ (by exact rfl) (by exact rfl) (by exact rfl); k_whole; intro _ _ _ _ _ _ _ N' Y' B' _ _ _; k_cells Y'; (try simp only [List.cons_append, List.nil_append] at N'); (try dsimp only); (try k_lift B'); (try k_fold)))
local macro_rules | `(tactic| k_mem) => `(tactic| first | with_reducible exact memH | (with_reducible refine' memT ?_; k_mem) | with_reducible assumption)
local macro_rules | `(tactic| walk_at "subscriptTail Name Name ref int") => `(tactic| (k_here; (with_reducible show wpAny _ _ (subscriptTail _ _ (Value.ref _) (Value.int _ _)) _ _ _); k_dflt (refine' item_led (by k_asm) (by k_mem) (by omega) (by omega) (by first | assumption | rfl) ?_; k_whole)))
local macro_rules | `(tactic| walk_at "compareOp NotEq int int") => `(tactic| (k_here; refine ne_known (by assumption) ?_))
local macro_rules | `(tactic| walk_at "subscriptTail") => `(tactic| (k_here; (with_reducible show wpAny _ _ (subscriptTail _ _ (Value.ref _) (Value.ref _)) _ _ _); k_dflt (refine' item_laid (by k_asm) (by assumption) (by (intro _ hp; repeat (first | exact hp | refine List.Mem.tail _ ?_))) (by k_mem) (by assumption) (by assumption) (by assumption) (by ktr_units) (by assumption) _ (by assumption) ?_; intro _)))
local macro_rules | `(tactic| walk_at "compareOp NotIn ref ref") => `(tactic| (k_here; k_dflt (refine' notin_laid (by k_asm) (by assumption) (by (intro _ hp; repeat (first | exact hp | refine List.Mem.tail _ ?_))) (by assumption) (by k_mem) (by assumption) (by assumption) (by assumption) (by ktr_units) _ (by assumption) ?_; intro _)))
local macro_rules | `(tactic| walk_at "subscriptTail Name Name ref str") => `(tactic| (k_here; (with_reducible show wpAny _ _ (subscriptTail _ _ (Value.ref 323) (Value.str _ _)) _ _ _); k_dflt (refine' places_item (by assumption) (by k_asm) (by k_asm) ?_)))
theorem ne_ints0 {prog : Program} {w : World} {A : Around} {E : Value → Shared → Prop} {s : Shared} {h₀ : Heap} {L a b : Addr} {news : List (Addr × Obj)} {ys : List Value} {ns : List Int} {ob : Obj} {Q : Value → Shared → Prop} (N : News h₀ L s.heap news) (ha : (a, LCg.lst ys) ∈ news) (hb : (b, ob) ∈ news)
    (hy : IntsAre ys ns) (eb : ob.cls = .type "list" ∧ ∃ n, ob.data = .seq [].toArray n) (hu : A.units + 64 < cLine) {r : Bool} (hr : (!decide (ns = [])) = r)
    (h : Q (.bool r) s) : wpAny (model prog w) A (compareOp .NotEq (.ref a) (.ref b)) Q E s :=
  ne_intsK (ms := []) (us := []) ⟨_, (N _ ha).1, rfl, ⟨_, rfl⟩⟩ hy ⟨_, (N _ hb).1, eb⟩ .nil hu (by rw [hr]; exact h)
local macro_rules | `(tactic| walk_at "compareOp NotEq ref ref") => `(tactic| (k_here; k_dflt (refine' ne_ints0 (by k_asm) (by k_mem) (by k_mem) (by assumption) (by exact ⟨rfl, _, rfl⟩) (by ktr_units) (by assumption) ?_)))
local macro_rules | `(tactic| walk_at "binaryOp Add str str") => `(tactic| (k_here; (with_reducible show wpAny _ _ (binaryOp Operator.Add (Value.str _ _) (Value.str _ _)) _ _ _); (refine add_open (by assumption) ?_); intro _ _))
local macro_rules | `(tactic| walk_at "CompSrcT") => `(tactic| (k_here; k_dflt (refine LCt.CompSrcT.base (by rfl) (by k_asm) (by k_asm) (plc_is (by assumption) (by k_asm)) plv_size ?_; intro _)))
local macro_rules | `(tactic| walk_at "CompRestT") => `(tactic| (k_here; refine halt ?_))
set_option maxRecDepth 100000 in
set_option maxHeartbeats 8000000 in
theorem due_ok {w : World} {mean : ExcName → Option Value} {mg mb : Str → Option Value} {dp un : Nat} {gd : Option (List Code)} {cn : Str} {cs : Scope} {a : Addr} {ccd : Value} {cl : List (Str × Addr)} {outer : List Env} {A₀ : Around} {base h₀ : Heap} {L : Addr} {m : Str → Option Value} {s : Shared} {Q E : Value → Shared → Prop}
    {σ : Shape} {wd : Nat} {c : Nat → Int} {p : Nat} {pa ld ta : Addr} {tc tp : Nat → Tok} {t1 t2 : Tok} {n1 n2 : Nat} {xs : List (List (Int ⊕ Str) × Addr × Value)} {news : List (Addr × Obj)}
    (B : Below A₀ base outer h₀) (F : Fr h₀ L s.heap m) (X : (Mine.h0.heap_1_1 w.params).In h₀) (T : Top Mine.h0.view_1_2 (looseW Mine.h0.view_1_2 [Str.ofString "UNSET", Str.ofString "Limits", Str.ofString "_law_places"]) mean mg mb h₀) (hk : cs.kind = .function) (hd : dp + 2 < recursionLimit) (hu : un + 200 < cLine)
    (N : News h₀ L s.heap news) (hw : wd < 3) (hp2 : σ.p2 < 2) (hc : ∀ k, 0 ≤ c k) (hp : (p : Int) ∈ places wd)
    (hpa : (pa, W.listOf [parv σ.p2 0 (tp 0), parv σ.p2 1 (tp 1), parv σ.p2 2 (tp 2)].toArray n1) ∈ news) (hta : (ta, W.listOf [tagv (c 0) (tc 0), tagv (c 1) (tc 1), tagv (c 2) (tc 2)].toArray n2) ∈ news)
    (HL : LaidIn PySem.Challenge.rw_pp0008_01.row.prog w news ld xs) (HS : LaidSays σ.lay xs) (hlo : (ld == sysModules) = false)
    (ret : ∀ (t : Tok) (h' : Heap) (tk' : Nat), Fr h₀ L h' m → News h₀ L h' news → Q (.str (res σ wd c p) t) { s with heap := h', toks := tk' }) :
    wpAny (model PySem.Challenge.rw_pp0008_01.row.prog w) (ktrTop dp un gd cn cs L a ccd cl outer) (call (.ref 346) [.ref pa, .ref ld, .str (wn wd) t1, .ref ta, .int (p : Nat) t2]) Q E s := by
  have hp3 : p < 3 := place_lt hw hp
  have hit : [tagv (c 0) (tc 0), tagv (c 1) (tc 1), tagv (c 2) (tc 2)][(p : Int).toNat]? = some (tagv (c p) (tc p)) := three_get (f := fun i => tagv (c i) (tc i)) hp3
  revert X
  k_fill
  intro X
  refine wpAny_call ?_
  k_dflt cell_enter
  iterate 8 (first | (k_unfold; (try dsimp only)) | (k_end; wrow_close) | walk1 | (dsimp only; walk1) | (leave1; walk_say "STEP leave1"; try dsimp only) | fail "no step")
  (refine While_at (Str.ofString "at") atv (fun av => nearO σ.p2 σ.lay wd av = nearO σ.p2 σ.lay wd (tagO (c p)) ∧ ∀ t, av = some t → t < 3) (tagO (c p)) (tc p) (by assumption) (by assumption) (tagv_atv (hc p)) ⟨rfl, fun t ht => tagO_lt (hc p) ht⟩ ?_)
  rintro av t h' tk' ⟨hnear, hlt⟩ F' N'
  rcases av with _ | q
  · (try dsimp only [atv] at F')
    have hres := res_none hnear.symm
    k_steps
    rw [← hres]
    (with_reducible rename Fr _ _ _ _ => kF9); (with_reducible rename News _ _ _ _ => kN9)
    exact ret _ _ _ kF9 (cb_drop kN9 (by intro p hp; repeat (first | exact hp | refine List.Mem.tail _ ?_)))
  · have hq : q < 3 := hlt q rfl
    have hpar : [parv σ.p2 0 (tp 0), parv σ.p2 1 (tp 1), parv σ.p2 2 (tp 2)][((q : Nat) : Int).toNat]? = some (parv σ.p2 q (tp q)) := three_get (f := fun i => parv σ.p2 i (tp i)) hq
    (try dsimp only [atv] at F')
    rcases hl : σ.lay q wd with _ | kk
    · have hls : (σ.lay q wd).isSome = false := by rw [hl]; exact rfl
      have hmiss : nearO σ.p2 σ.lay wd (parN σ.p2 q) = nearO σ.p2 σ.lay wd (tagO (c p)) := (near_miss hq hp2 (by rw [hl]; exact rfl)).symm.trans hnear
      have hrank : rankO (parN σ.p2 q) < rankO (some q) := rank_par hp2 hq
      have hlt' : ∀ r, parN σ.p2 q = some r → r < 3 := fun r hr => Nat.lt_trans (parN_lt hp2 hq hr) hq
      k_steps
      (with_reducible rename Fr _ _ _ _ => kF9); (with_reducible rename News _ _ _ _ => kN9)
      refine ⟨_, _, _, _, parN σ.p2 q, tp q, rfl, kF9, kN9, ?_, rfl, ?_, hrank, hmiss, hlt'⟩
      · intro p hp; repeat (first | exact hp | refine List.Mem.tail _ ?_)
      · intro y hy; simp only [if_neg hy]
    · have hls : (σ.lay q wd).isSome = true := by rw [hl]; exact rfl
      have hnq : nearO σ.p2 σ.lay wd (tagO (c p)) = some q := hnear.symm.trans (near_hit hq (by rw [hl]; exact rfl))
      rcases Nat.eq_zero_or_pos kk with hk0 | hk0
      · have hb : decide (0 < kk) = false := by rw [hk0]; exact rfl
        have hres := res_zero hnq (hk0 ▸ hl)
        k_steps
        rw [← hres]
        (with_reducible rename Fr _ _ _ _ => kF9); (with_reducible rename News _ _ _ _ => kN9)
        exact ret _ _ _ kF9 (cb_drop kN9 (by intro p hp; repeat (first | exact hp | refine List.Mem.tail _ ?_)))
      · have hb : decide (0 < kk) = true := decide_eq_true hk0
        have hres := res_pos hnq hl hk0
        obtain ⟨h3, hnc⟩ := near_of_O hnq
        have hitem := item_abc hq
        have hpi : [tagv (c 0) (tc 0), tagv (c 1) (tc 1), tagv (c 2) (tc 2)][((p : Nat) : Int).toNat]? = some (Value.int (c p) (tc p)) := by rw [hit, tagv_lt (by omega)]
        clear hit
        have hany : (places wd).any (fun k => decide (c k.toNat < 3) && decide (c k.toNat ≠ c p)) = (plk wd).any (fun k => decide (c k < 3) && decide (c k ≠ c p)) := plk_any hw (f := fun k => decide (c k < 3) && decide (c k ≠ c p))
        k_steps
        unfold Halt
        refine restT_ind (fun k => decide (c k < 3) && decide (c k ≠ c p)) ?_ (plv_nums hw) (plk_lt hw) (fun j v hj => by rw [Nat.zero_add] at hj; simpa using hj) .nil ?_
        · intro k t ys r1 r2 I oI C oC D m₂ h tk E' hk3 hC hx F9 N9 off ne g1 g2
          (with_reducible rename Fr _ _ _ _ => kF9); (with_reducible rename News _ _ _ _ => kN9)
          have hik : [tagv (c 0) (tc 0), tagv (c 1) (tc 1), tagv (c 2) (tc 2)][((k : Nat) : Int).toNat]? = some (tagv (c k) (tc k)) := three_get (f := fun i => tagv (c i) (tc i)) hk3
          by_cases hck : c k < 3
          · rw [tagv_lt hck] at hik
            by_cases hce : c k = c p
            · have hne : (c k != c p) = false := by simp [hce]
              have g3 := g2 (by simp [hce])
              k_steps
              (with_reducible rename Fr _ _ _ _ => kF9); (with_reducible rename News _ _ _ _ => kN9)
              exact LCg.CompEnd.intro kF9 kN9 _ (by intro p hp; repeat (first | exact hp | refine List.Mem.tail _ ?_)) off (.inl (plc_is hw (by assumption))) g3
            · have hne : (c k != c p) = true := by simp [hce]
              have g3 := g1 (by simp [hce, hck])
              k_steps
              (with_reducible rename Fr _ _ _ _ => kF9); (with_reducible rename News _ _ _ _ => kN9)
              exact LCg.CompEnd.intro kF9 kN9 _ (by intro p hp; repeat (first | exact hp | refine List.Mem.tail _ ?_)) off (.inl (plc_is hw (by assumption))) g3
          · rw [tagv_ge hck] at hik
            have g3 := g2 (by simp [hck])
            k_steps
            (with_reducible rename Fr _ _ _ _ => kF9); (with_reducible rename News _ _ _ _ => kN9)
            exact LCg.CompEnd.intro kF9 kN9 _ (by intro p hp; repeat (first | exact hp | refine List.Mem.tail _ ?_)) off (.inl (plc_is hw (by assumption))) g3
        · intro ys hys
          rw [List.nil_append] at hys
          unfold LCg.FinE
          intro D9 h9 tk9 F9 N9 off9
          rcases hh : (plk wd).any (fun k => decide (c k < 3) && decide (c k ≠ c p)) with _ | _
          · have hf : (plk wd).filter (fun k => decide (c k < 3) && decide (c k ≠ c p)) = [] := List.filter_eq_nil_iff.mpr fun k hk => by
              have := List.any_eq_false.mp hh k hk
              exact this
            rw [hf, List.map_nil] at hys
            have hres2 : res σ wd c p = nm q wd := by rw [hres, hany, hh]; rfl
            have hb2 : (!decide (([] : List Int) = [])) = false := rfl
            have s1 := w1_ hw
            have s2 := w2_ hw hq
            k_steps
            rw [hitem]
            (show Q (Value.str (nm q wd) _) _)
            rw [← hres2]
            (with_reducible rename Fr _ _ _ _ => kF9); (with_reducible rename News _ _ _ _ => kN9)
            exact ret _ _ _ kF9 (cb_drop kN9 (by intro p hp; repeat (first | exact hp | refine List.Mem.tail _ ?_)))
          · have hres2 : res σ wd c p = Str.ofString "constraint_error" := by rw [hres, hany, hh]; rfl
            rcases hf : (plk wd).filter (fun k => decide (c k < 3) && decide (c k ≠ c p)) with _ | ⟨k0, kr⟩
            · exfalso
              obtain ⟨k, hk, hk2⟩ := List.any_eq_true.mp hh
              have := List.filter_eq_nil_iff.mp hf k hk
              exact this hk2
            · rw [hf, List.map_cons] at hys
              have hb2 : (!decide (((k0 : Int) :: kr.map fun (k : Nat) => (k : Int)) = [])) = true := by simp
              k_steps
              rw [← hres2]
              (with_reducible rename Fr _ _ _ _ => kF9); (with_reducible rename News _ _ _ _ => kN9)
              exact ret _ _ _ kF9 (cb_drop kN9 (by intro p hp; repeat (first | exact hp | refine List.Mem.tail _ ?_)))
end Mine
end
section
open PySem PySem.W PyProof.Rows PySem.Calls PySem.Spec
namespace Mine
section
variable {prog : Program} {w : World} {A : Around} {R : Result → Shared → Prop} {h : Heap} {g : Array GenState} {d : Drawn} {t : Nat} {os : OsState}
variable {nm0 q : Str} {C N : Addr} {bs bm : List Value} {hdct : Bool} {sn : List Str} {sub : List Value} {ab : Bool} {col : Option Bool} {dd : Option Addr} {k0 k1 k2 k3 k5 : Option Value} {Bn newId inN : String} {bmN : List Value}

abbrev excNew (C : Addr) (t : Addr) : Obj := { cls := .ref C, data := .fields #[.ref t, .none, .none, .none, .bool false, .none] }
abbrev tupNew (rest : List Value) : Obj := { cls := .type "tuple", data := .seq rest.toArray }

/-- a new exception of an own class: what object's maker lays -/
theorem exc_new (Fn : ExcBaseFacts Bn newId inN bmN) {rest : List Value} (hC : h.get? C = some (excClassObj nm0 q C N bs bm hdct sn sub ab col dd k0 k1 k2 k3 k5 newId))
    (hcB : (Value.ref C :: bm).contains (.type Bn) = true) (hcA : (Value.ref C :: bm).contains (.type "AttributeError") = false) (hcN : (Value.ref C :: bm).contains (.type "NameError") = false)
    (hq : R (.ok (.ret (.ref (h.objs.size + 1)))) ⟨(h.push (tupNew rest)).push (excNew C h.objs.size), g, d, t, os⟩) (hrest : rest.length ≤ sizeLine) :
    codeAny (model prog w) A (.call (.builtin newId) ⟨.ref C :: rest, []⟩) R ⟨h, g, d, t, os⟩ := by
  refine codeAny_call_builtin_code (Code.quiet_builtin _ Fn.quiet) ?_
  have hstar := Fn.noStar
  simp only [checkBuiltinCall, Fn.newKind, Fn.newSplit, Fn.newRow]
  repeat (first | refine wpAny_loadPart_at hC ?_ | (refine wpAny_isSubtype_exc hC ?_; rw [hcB]) | refine wpAny_staticBase_exc hC ?_ | refine wpAny_madeBy_exc hC ?_ | simp only [bne_self_eq_false, Bool.false_eq_true, if_false] | wp_step)
  have hends := Fn.ends
  refine codeAny_builtinAt Fn.entry ?_
  unfold Builtin.«BaseException.__new__»
  refine PySem.wpAt_bind ?_
  show PySem.wpAt _ _ _ (stack >>= _) _ _ _
  refine PySem.wpAt_bind (PySem.wpAt_stack fun p below => PySem.wpAt_of_wpAny ?_)
  wp_walk
  refine PySem.wpAt_of_wpAny ?_
  rw [Fn.owner]
  repeat (first | with_reducible refine wpAny_madeHere_exc Fn.canon hC ?_ | with_reducible refine wpAny_loadPart_at hC ?_ | (with_reducible refine wpAny_isSubtype_exc hC ?_; first | rw [hcB] | rw [hcA] | rw [hcN]) | wp_step)
  show R _ _
  rw [Heap.size_push]
  exact hq

theorem exc_make (Fn : ExcBaseFacts Bn newId inN bmN) {rest : List Value} {fI : Addr} (hC : h.get? C = some (excClassObj nm0 q C N bs bm hdct sn sub ab col dd k0 k1 k2 k3 k5 newId))
    (hcB : (Value.ref C :: bm).contains (.type Bn) = true) (hcA : (Value.ref C :: bm).contains (.type "AttributeError") = false) (hcN : (Value.ref C :: bm).contains (.type "NameError") = false)
    (hi : Looks (model prog w) h (typeLookup (.ref C) "__init__") (some (.ref fI))) (hb : ∀ self, Looks (model prog w) h (bindSpecial (.ref fI) self) (.ref fI, [self]))
    (hq : codeAny (model prog w) (A.under (.builtin "type.__call__" ⟨.ref C :: rest, []⟩)) (.call (.ref fI) ⟨.ref (h.objs.size + 1) :: rest, []⟩) (InitBack (h.objs.size + 1) R) ⟨(h.push (tupNew rest)).push (excNew C h.objs.size), g, d, t, os⟩) (hrest : rest.length ≤ sizeLine) :
    codeAny (model prog w) A (.call (.ref C) ⟨rest, []⟩) R ⟨h, g, d, t, os⟩ := by
  have f1 := tc_lookup
  have f2 := tc_bind (.ref C)
  have hT : (⟨h, g, d, t, os⟩ : Shared).TypeIs (.ref C) "type" := ⟨_, hC, rfl⟩
  refine codeAny_of_tree ?_
  show wpAny _ _ (callAny (.ref C) _) _ _ _
  repeat (any_goals (first | assumption | with_reducible refine wpAny_loadPart_at hC ?_ | wp_step))
  refine ⟨rfl, ?_⟩
  refine codeAny_call_builtin_at (Code.quiet_builtin _ (by decide +kernel)) entry_typeCall (wpAny_check_type_call_sub hC ?_)
  repeat (first | with_reducible refine wpAny_loadPart_at hC ?_ | with_reducible refine wpAny_madeBy_exc hC ?_ | wp_step)
  refine exc_new (rest := rest) Fn hC hcB hcA hcN ?_ hrest
  show wpAny _ _ _ _ _ _
  have k : ∀ b o, h.get? b = some o → ((h.push (tupNew rest)).push (excNew C h.objs.size)).get? b = some o := fun b o e => Heap.get?_push_of_some _ (Heap.get?_push_of_some _ e)
  have hC₁ := k _ _ hC
  have hget : ((h.push (tupNew rest)).push (excNew C h.objs.size)).get? (h.objs.size + 1) = some (excNew C h.objs.size) := by heap_get
  have hcC : (Value.ref C :: bm).contains (.ref C) = true := by simp
  have i1 := hi.keeps k
  have b1 := (hb (.ref (h.objs.size + 1))).keeps k
  have t1 : Looks (model prog w) ((h.push (tupNew rest)).push (excNew C h.objs.size)) (typeOf (.ref (h.objs.size + 1))) (.ref C) := (Looks.ld hget).andThen .now
  have s1 : Looks (model prog w) ((h.push (tupNew rest)).push (excNew C h.objs.size)) (isSubtype (.ref C) (.ref C)) true := fun A Q E s k' q => by
    obtain ⟨hh, g, d, t, os⟩ := s
    exact wpAny_isSubtype_exc (k' _ _ hC₁) (by rw [hcC]; exact q)
  unfold isInstance callSpecial? specialOf
  repeat (first | simp only [hcC, Bool.not_true, Bool.false_eq_true, if_false] | with_reducible refine wpAny_call ?_ | lk)
  refine codeAny_mono hq fun r s' z => ?_
  rcases r with e | (v | _ | _ | _) <;> first | exact z | exact z.elim | skip
  obtain ⟨rfl, z⟩ := z
  exact wpAny_pure (wpAny_pure z)
end
end Mine
end
section
open PySem PySem.W PyProof.Rows PySem.Calls PySem.Spec
namespace Mine
theorem call_ada {w : World} {A : Around} {E : Value → Shared → Prop} {s : Shared} {h₀ : Heap} {L : Addr} {m : Str → Option Value} {news : List (Addr × Obj)} {rest : List Value} {Q : Value → Shared → Prop}
    (F : Fr h₀ L s.heap m) (N : News h₀ L s.heap news) (X₀ : (Mine.h0.heap_1_1 w.params).In h₀) (hrest : rest.length ≤ sizeLine)
    (hi : findIn (Mine.h0.heap_1_1 w.params) (.ref 58) "__init__" = some (some (.ref 55))) (hf : typeIn (Mine.h0.heap_1_1 w.params) (.ref 55) = some (.type "function"))
    (h : ∀ e t h', Fr h₀ L h' m → News h₀ L h' ((e, excNew 58 t) :: (t, tupNew rest) :: news) → (∀ p ∈ news, p.1 < t) → t < e →
      codeAny (model PySem.Challenge.rw_pp0008_01.row.prog w) (A.under (.builtin "type.__call__" ⟨.ref 58 :: rest, []⟩)) (.call (.ref 55) ⟨.ref e :: rest, []⟩) (InitBack e fun r s' => match r with | .ok (.ret v) => Q v s' | .ok _ => False | .error e => E e s') { s with heap := h' }) :
    wpAny (model PySem.Challenge.rw_pp0008_01.row.prog w) A (call (.ref 58) rest) Q E s := by
  have X := X₀.keeps F.keep
  have N' := (N.push F (tupNew rest)).push (F.push _) (excNew 58 s.heap.objs.size)
  rw [Heap.size_push] at N'
  have z := h _ s.heap.objs.size _ ((F.push (tupNew rest)).push (excNew 58 s.heap.objs.size)) N' (fun p hp => Heap.lt_size (N p hp).1) (Nat.lt_succ_self _)
  refine wpAny_call ?_
  obtain ⟨hh, g, d, t, os⟩ := s
  exact exc_make PySem.F.excBase_Exception (X 58 _ (by rfl)) (by decide +kernel) (by decide +kernel) (by decide +kernel) (looks_findIn X hi) (fun self => bind_fn X self hf) z hrest


theorem exc_init {prog : Program} {w : World} {A : Around} {E : Value → Shared → Prop} {h : Heap} {g : Array GenState} {d : Drawn} {t : Nat} {os : OsState}
    {nm0 q : Str} {C N : Addr} {bs bm : List Value} {hdct : Bool} {sn : List Str} {sub : List Value} {ab : Bool} {col : Option Bool} {dd : Option Addr} {k0 k1 k2 k3 k5 : Option Value} {B newId newId' initId : String} {bmN : List Value}
    (F : ExcBaseFacts B newId initId bmN) {e t0 : Addr} {rest : List Value} {Q : Value → Shared → Prop}
    (hC : h.get? C = some (excClassObj nm0 q C N bs bm hdct sn sub ab col dd k0 k1 k2 k3 k5 newId')) (hcB : (Value.ref C :: bm).contains (.type B) = true)
    (he : h.get? e = some (excNew C t0)) (ht : ∃ ot, h.get? t0 = some ot) (hrest : rest.length ≤ sizeLine)
    (hq : Q .none ⟨(h.push (tupNew rest)).update e (Obj.mapFields (·.setIfInBounds 0 (.ref h.objs.size))), g, d, t, os⟩) :
    wpAny (model prog w) A (call (.builtin initId) (.ref e :: rest)) Q E ⟨h, g, d, t, os⟩ := by
  refine wpAny_call (codeAny_call_builtin F.init.plain F.initEntry ?_)
  have hshort := F.noStar
  simp only [checkBuiltinCall, F.initKind, F.initSplit, F.initRow]
  repeat (first | (with_reducible refine wpAny_loadPart_at he ?_) | with_reducible refine wpAny_loadPart_at hC ?_ | (with_reducible refine wpAny_isSubtype_exc hC ?_; rw [hcB]) | wp_step)
  refine wpAny_onRaise ?_
  rw [show ∀ (a b : String) (n : Nat), Bind.check ⟨.positional, "*", B, .self, [⟨"args", .varPos, false⟩]⟩ a b n (List.map (fun x => x.fst) ({ pos := Value.ref e :: rest } : Args).kw) = pure () from
    fun a b n => check_star_args _ _ _ _ _ _]
  refine wpAny_pure ?_
  wp_walk
  exact hq
end Mine
end
section
open PySem PySem.W PyProof.Rows PySem.Calls PySem.Spec Builtin Builtin.ObjectAttr Builtin.Getset_descriptor
namespace Mine
theorem refuse_exc (self : Value) : refuseLoop self "__setattr__" [.ref 58, .ref 38, .type "Exception", .type "BaseException", .type "object"] = pure () := by
  rw [refuseLoop_ref, refuseLoop_ref]
  kernel_rfl
section
variable {prog : Program} {w : World} {A : Around} {K : Frag} {C x L : Addr} {s : Shared} {h₀ : Heap} {m : Str → Option Value} {news : List (Addr × Obj)} {R : Result → Shared → Prop} {cd : ClassData}
/-- object.__setattr__ on an object whose line passes it by -/
theorem osa_openE {ox : Obj} {od : Option Obj} {name : Str} {tk : Tok} {v : Value} (X : K.In s.heap) (I : InstAt s.heap x ox C od) (hc : clsIn K C = some cd) (ne : cd.mro.isEmpty = false) (ho : cd.mro.contains (.type "object") = true)
    (href : ∀ self, refuseLoop self "__setattr__" cd.mro = pure ()) (ht : takerIn K C name = some none)
    (h : ∀ b, wpAny (model prog w) A.in1 (storeInOwnDict (.ref x) (.ref C) (.str name tk) name v b)
      (fun fin s' => match fin with | .done f => R (.ok f) s' | .again c' => c'.quiet = true ∧ codeAny (model prog w) A c' R s') (fun e s' => R (.error e) s') s) :
    codeAny (model prog w) A (.call (.builtin "object.__setattr__") ⟨[.ref x, .str name tk, v], []⟩) R s := by
  have SF := PySem.F.store_object
  have sub : Looks (model prog w) s.heap (isInstance (.ref x) (.type "object")) true := I.type.andThen (looks_mroIn X (by unfold mroIn; rw [hc, Option.bind_some, if_neg (by rw [ne]; decide), ho]))
  refine codeAny_call_builtin SF.slot.plain SF.entry (@check_slot (model prog w) _ _ s "object.__setattr__" "object" "__setattr__" (.ref x) [.str name tk, v] [] _ SF.kind SF.split sub (SF.args (.ref x) (.str name tk) v) ?_)
  obtain ⟨attr, ha, hr⟩ := Option.bind_eq_some_iff.mp ht
  have hm : Looks (model prog w) s.heap (mroOf (.ref C)) cd.mro := (looks_clsIn X hc).andThen .now
  have L3 : Looks (model prog w) s.heap (storeTaker? attr) none := by
    cases attr with
    | none => exact .now
    | some a =>
      obtain ⟨b, hb, e⟩ := Option.map_eq_some_iff.mp hr
      refine (looks_takesIn X hb).andThen ?_
      cases b
      · exact .now
      · cases e
  rw [osa_eq, refuse_eq]
  refine wpAny_bind (wpAny_bind (I.type.here (wpAny_bind (hm.here ?_))))
  rw [href]
  refine wpAny_pure (wpAny_bind (I.type.here (wpAny_bind ((looks_findIn X ha).here (wpAny_bind (L3.here ?_))))))
  exact h _

theorem store_first {P : PySem.Fin → Shared → Prop} {E : Value → Shared → Prop} {ox : Obj} {name : Str} {tk : Tok} {v : Value} {b : Bool} {vs : Array Value} (F : Fr h₀ L s.heap m) (X : K.In s.heap) (hx : s.heap.get? x = some ox) (hox : ox = { cls := .ref C, data := .fields vs }) (hc : clsIn K C = some cd) (hd : cd.hasDict = true)
    (h : ∀ dx, dx = s.heap.objs.size → P (.done (.ret .none)) { s with heap := ((s.heap.push emptyDict).update x (fun o => { o with dict := some dx })).update dx (Obj.putName name (PyData.keyHash w.params name) (.str name s.toks) v), toks := s.toks + 1 }) :
    wpAny (model prog w) A (storeInOwnDict (.ref x) (.ref C) (.str name tk) name v b) P E s := by
  subst hox
  have hne : s.heap.objs.size ≠ x := Nat.ne_of_gt (Heap.lt_size hx)
  refine wpAny_bind (wpAny_pure (wpAny_bind (wpAny_bind (wpAny_loadPart hx (wpAny_bind ((looks_clsIn X hc).here ?_))))))
  rw [hd]
  refine wpAny_bind (wpAny_alloc ?_)
  have hx1 : (s.heap.push emptyDict).get? x = some { cls := .ref C, data := .fields vs } := Heap.get?_push_of_some _ hx
  refine wpAny_bind (wpAny_updatePart hx1 ?_)
  refine wpAny_pure (a := some s.heap.objs.size) (wpAny_bind (wpAny_pure (wpAny_bind ?_)))
  have D : ((s.heap.push emptyDict).update x (fun o => { o with dict := some s.heap.objs.size })).get? s.heap.objs.size = some emptyDict :=
    (Heap.get?_update_other _ _ (Ne.symm hne)).trans (Heap.get?_push_size _ rfl)
  have D' : (((s.heap.push emptyDict).update x (fun o => { o with dict := some s.heap.objs.size })).update s.heap.objs.size (Obj.putName name (PyData.keyHash w.params name) (.str name s.toks) v)).get? s.heap.objs.size = some (Obj.putName name (PyData.keyHash w.params name) (.str name s.toks) v emptyDict) :=
    Heap.get?_update_self _ D (by show (Obj.putName name (PyData.keyHash w.params name) (.str name s.toks) v (dictOf [] 0)).isFreed = false; rw [putName_dict]; rfl)
  unfold nsSet
  refine wpAny_bind (wpAny_bind (wpAny_askSetting (wpAny_pure (wpAny_bind (wpAny_mkText (wpAny_bind (wpAny_loadPart D ?_)))))))
  dsimp only
  have c : (!(#[] : Array DictEntry).any (·.key.isStr name) && (#[] : Array DictEntry).any (·.refKey)) = false := by simp
  rw [aRefKeyMayBeTheName_at, c]
  refine wpAny_updatePart D ?_
  refine wpAny_bind (wpAny_lookBehind D' ?_ ?_)
  · show (Obj.putName name (PyData.keyHash w.params name) (.str name s.toks) v (dictOf [] 0)).data.pastItsLine = none
    rw [putName_dict]
    exact pastItsLine_dict (Nat.le_of_ble_eq_true (by rw [sizeLine_eq]; rfl))
  exact wpAny_pure (h _ rfl)

theorem store_more {P : PySem.Fin → Shared → Prop} {E : Value → Shared → Prop} {ox : Obj} {dx : Addr} {name : Str} {tk : Tok} {v : Value} {b : Bool} {vs : Array Value} {es : List DictEntry} {n : Nat} (X : K.In s.heap) (hx : s.heap.get? x = some ox) (hox : ox = { cls := .ref C, dict := some dx, data := .fields vs }) (hdx : s.heap.get? dx = some (dictOf es n)) (hc : clsIn K C = some cd) (hd : cd.hasDict = true)
    (hl : (getL name es).isSome = true) (hz : (putL name (PyData.keyHash w.params name) (.str name s.toks) v es).length ≤ 1000)
    (h : P (.done (.ret .none)) { s with heap := s.heap.update dx (Obj.putName name (PyData.keyHash w.params name) (.str name s.toks) v), toks := s.toks + 1 }) :
    wpAny (model prog w) A (storeInOwnDict (.ref x) (.ref C) (.str name tk) name v b) P E s := by
  subst hox
  refine wpAny_bind (wpAny_pure (wpAny_bind (wpAny_bind (wpAny_loadPart hx (wpAny_bind ((looks_clsIn X hc).here ?_))))))
  rw [hd]
  refine wpAny_pure (a := some dx) (wpAny_bind (wpAny_pure (wpAny_bind ?_)))
  have D' : (s.heap.update dx (Obj.putName name (PyData.keyHash w.params name) (.str name s.toks) v)).get? dx = some (Obj.putName name (PyData.keyHash w.params name) (.str name s.toks) v (dictOf es n)) :=
    Heap.get?_update_self _ hdx (by rw [putName_dict]; rfl)
  unfold nsSet
  refine wpAny_bind (wpAny_bind (wpAny_askSetting (wpAny_pure (wpAny_bind (wpAny_mkText (wpAny_bind (wpAny_loadPart hdx ?_)))))))
  dsimp only
  have c : (!es.toArray.any (·.key.isStr name) && es.toArray.any (·.refKey)) = false := by
    simp only [List.any_toArray]
    unfold getL at hl
    split at hl
    · rename_i en he
      rw [List.any_eq_true.mpr ⟨en, List.mem_of_find?_eq_some he, List.find?_some he⟩]; rfl
    · split at hl
      · cases hl
      · rename_i z; rw [Bool.not_eq_true] at z; rw [z, Bool.and_false]
  rw [aRefKeyMayBeTheName_at, c]
  refine wpAny_updatePart hdx ?_
  refine wpAny_bind (wpAny_lookBehind D' ?_ ?_)
  · rw [putName_dict]
    exact pastItsLine_dict (by rw [List.size_toArray, sizeLine_eq]; omega)
  exact wpAny_pure h
end
abbrev exc58 (t dx : Addr) : Obj := { cls := .ref 58, dict := some dx, data := .fields #[.ref t, .none, .none, .none, .bool false, .none] }
abbrev cd58 : ClassData := { name := Str.ofString "AdaRaise", bases := [.ref 38], mro := [.ref 58, .ref 38, .type "Exception", .type "BaseException", .type "object"], ns := 57, qualname := Str.ofString "AdaRaise" }
section
variable {w : World} {A : Around} {E : Value → Shared → Prop} {e t L : Addr} {s : Shared} {h₀ : Heap} {m : Str → Option Value} {news news' : List (Addr × Obj)} {gf : Obj → List (Addr × Obj)} {name : Str} {v : Value} {Q : Unit → Shared → Prop}
theorem cls58 : clsIn (Mine.h0.heap_1_1 w.params) 58 = some cd58 := by rfl
theorem set_exc1 (F : Fr h₀ L s.heap m) (X₀ : (Mine.h0.heap_1_1 w.params).In h₀) (N : News h₀ L s.heap news) (U : UpdF e (excNew 58 t) news gf)
    (hs : findIn (Mine.h0.heap_1_1 w.params) (.ref 58) "__setattr__" = some (some (.builtin "object.__setattr__"))) (ht : takerIn (Mine.h0.heap_1_1 w.params) 58 name = some none)
    (h : ∀ dx h', Fr h₀ L h' m → News h₀ L h' ((dx, dictOf [⟨PyData.keyHash w.params name, .str name (s.toks + 1), v⟩] 1) :: gf (exc58 t dx)) → (∀ p ∈ news, p.1 < dx) → Q () { s with heap := h', toks := s.toks + 2 }) :
    wpAny (model PySem.Challenge.rw_pp0008_01.row.prog w) A (setAttr (.ref e) name v) Q E s := by
  obtain ⟨pre, post, rfl, hg, a, b⟩ := U.split
  have X := X₀.keeps F.keep
  have hx := (N (e, excNew 58 t) (List.mem_append_right _ (.head _))).1
  have I : InstAt s.heap e (excNew 58 t) 58 none := ⟨hx, rfl, rfl, trivial⟩
  refine set_plain (od := none) X I hs (osa_openE (s := { s with toks := s.toks + 1 }) X I cls58 (by rfl) (by decide +kernel) refuse_exc ht fun b9 => store_first (s := { s with toks := s.toks + 1 }) F X hx rfl cls58 rfl fun dx hdx => ?_)
  have F1 := F.push emptyDict
  have N1 := N.push F emptyDict
  have lo : ∀ p ∈ pre ++ (e, excNew 58 t) :: post, p.1 < s.heap.objs.size := fun p hp => Heap.lt_size (N p hp).1
  have N1' : News h₀ L (s.heap.push emptyDict) (((s.heap.objs.size, emptyDict) :: pre) ++ (e, excNew 58 t) :: post) := N1
  obtain ⟨F2, N2⟩ := news_upd (f := fun o => { o with dict := some dx }) (o' := exc58 t dx) F1 N1' (by
    intro p hp
    rcases List.mem_cons.mp hp with rfl | hp
    · exact Nat.ne_of_gt (lo (e, excNew 58 t) (List.mem_append_right _ (.head _)))
    · exact a p hp) b rfl rfl
  have N2' : News h₀ L ((s.heap.push emptyDict).update e fun o => { o with dict := some dx }) ([] ++ (dx, emptyDict) :: (pre ++ (e, exc58 t dx) :: post)) := hdx ▸ N2
  obtain ⟨F3, N3⟩ := news_upd (f := Obj.putName name (PyData.keyHash w.params name) (.str name (s.toks + 1)) v) (o' := dictOf [⟨PyData.keyHash w.params name, .str name (s.toks + 1), v⟩] 1) F2 N2' (fun _ hp => nomatch hp) (by
    intro p hp
    rw [hdx]
    rcases List.mem_append.mp hp with hp | hp
    · exact Nat.ne_of_lt (lo p (List.mem_append_left _ hp))
    · rcases List.mem_cons.mp hp with rfl | hp
      · exact Nat.ne_of_lt (lo (e, excNew 58 t) (List.mem_append_right _ (.head _)))
      · exact Nat.ne_of_lt (lo p (List.mem_append_right _ (.tail _ hp)))) (by show Obj.putName _ _ _ _ (dictOf [] 0) = _; rw [putName_dict]; rfl) rfl
  exact h dx _ F3 (by rw [hg]; exact N3) (fun p hp => by rw [hdx]; exact lo p hp)
theorem set_exc2 {dx : Addr} {es es' : List DictEntry} {n n' : Nat} (F : Fr h₀ L s.heap m) (X₀ : (Mine.h0.heap_1_1 w.params).In h₀) (N : News h₀ L s.heap news) (he : (e, exc58 t dx) ∈ news) (hdm : (dx, dictOf es n) ∈ news)
    (hs : findIn (Mine.h0.heap_1_1 w.params) (.ref 58) "__setattr__" = some (some (.builtin "object.__setattr__"))) (ht : takerIn (Mine.h0.heap_1_1 w.params) 58 name = some none) (hl : (getL name es).isSome = true)
    (ee : (putL name (PyData.keyHash w.params name) (.str name (s.toks + 1)) v es, putN name es n) = (es', n')) (U : Upd dx (dictOf es n) (dictOf es' n') news news') (hz : es'.length ≤ 1000)
    (h : ∀ h', Fr h₀ L h' m → News h₀ L h' news' → Q () { s with heap := h', toks := s.toks + 2 }) :
    wpAny (model PySem.Challenge.rw_pp0008_01.row.prog w) A (setAttr (.ref e) name v) Q E s := by
  obtain ⟨pre, post, rfl, rfl, a, b⟩ := U.split
  obtain ⟨e1, e2⟩ := Prod.mk.inj ee
  have X := X₀.keeps F.keep
  have hx := (N _ he).1
  have hdx := (N (dx, dictOf es n) (List.mem_append_right _ (.head _))).1
  have I : InstAt s.heap e (exc58 t dx) 58 (some (dictOf es n)) := ⟨hx, rfl, rfl, hdx⟩
  obtain ⟨F3, N3⟩ := news_upd (f := Obj.putName name (PyData.keyHash w.params name) (.str name (s.toks + 1)) v) (o' := dictOf es' n') F N a b (by rw [putName_dict, e1, e2]) rfl
  exact set_plain X I hs (osa_openE (s := { s with toks := s.toks + 1 }) X I cls58 (by rfl) (by decide +kernel) refuse_exc ht fun b9 => store_more (s := { s with toks := s.toks + 1 }) X hx rfl hdx cls58 rfl hl (by rw [e1]; exact hz) (h _ F3 N3))
/-- BaseException's maker on what was made -/
theorem exc_init_K {t0 : Addr} {ot : Obj} {rest : List Value} {Q : Value → Shared → Prop} (F : Fr h₀ L s.heap m) (X₀ : (Mine.h0.heap_1_1 w.params).In h₀) (N : News h₀ L s.heap news) (U : UpdF e (excNew 58 t0) news gf) (hrest : rest.length ≤ sizeLine)
    (ht : (t0, ot) ∈ news) (h : ∀ t2 h', Fr h₀ L h' m → News h₀ L h' ((t2, tupNew rest) :: gf (excNew 58 t2)) → (∀ p ∈ news, p.1 < t2) → Q .none { s with heap := h' }) :
    wpAny (model PySem.Challenge.rw_pp0008_01.row.prog w) A (call (.builtin "Exception.__init__") (.ref e :: rest)) Q E s := by
  obtain ⟨pre, post, rfl, hg, a, b⟩ := U.split
  have X := X₀.keeps F.keep
  have hx := (N (e, excNew 58 t0) (List.mem_append_right _ (.head _))).1
  have lo : ∀ p ∈ pre ++ (e, excNew 58 t0) :: post, p.1 < s.heap.objs.size := fun p hp => Heap.lt_size (N p hp).1
  have N1' : News h₀ L (s.heap.push (tupNew rest)) (((s.heap.objs.size, tupNew rest) :: pre) ++ (e, excNew 58 t0) :: post) := N.push F (tupNew rest)
  obtain ⟨F2, N2⟩ := news_upd (f := Obj.mapFields (·.setIfInBounds 0 (.ref s.heap.objs.size))) (o' := excNew 58 s.heap.objs.size) (F.push (tupNew rest)) N1' (by
    intro p hp
    rcases List.mem_cons.mp hp with rfl | hp
    · exact Nat.ne_of_gt (lo (e, excNew 58 t0) (List.mem_append_right _ (.head _)))
    · exact a p hp) b rfl rfl
  have z := h s.heap.objs.size _ F2 (by rw [hg]; exact N2) lo
  have hot := (N _ ht).1
  obtain ⟨hh, g, d, tk, os⟩ := s
  exact exc_init PySem.F.excBase_Exception (X 58 _ (by rfl)) (by decide +kernel) hx ⟨_, hot⟩ hrest z
end
end Mine
end
section
open PySem PySem.W PyProof.Rows PySem.Calls PySem.Spec
namespace Mine
theorem drop24 {h₀ h : Heap} {L : Addr} {a b c d : Addr × Obj} {S : List (Addr × Obj)} (N : News h₀ L h (a :: b :: c :: d :: S)) : News h₀ L h (a :: c :: S) := cb_drop N fun p hp => by
  rcases List.mem_cons.mp hp with rfl | hp
  · exact .head _
  · rcases List.mem_cons.mp hp with rfl | hp
    · exact .tail _ (.tail _ (.head _))
    · exact .tail _ (.tail _ (.tail _ (.tail _ hp)))
theorem meta_Exc : typeOf (.type "Exception") = pure (.type "type") := by kernel_rfl
local macro_rules | `(tactic| k_all) => `(tactic| first | assumption | exact all_ne (by assumption) (by omega))
local macro_rules | `(tactic| k_mem) => `(tactic| first | with_reducible exact memH | (with_reducible refine' memT ?_; k_mem) | with_reducible assumption)
local macro_rules | `(tactic| walk_at "getMethod type:Exception") => `(tactic| (k_here; refine' method_type (by k_asm) (by k_asm) (by exact meta_Exc) (by decide +kernel) (by k_dflt k_is) (by k_handed) ?_))
local macro_rules | `(tactic| walk_at "call builtin:Exception.__init__") => `(tactic| (k_here; k_dflt (refine' exc_init_K (by k_asm) (by k_asm) (by k_asm) (by k_updF) (by exact Nat.le_of_ble_eq_true rfl) (by k_mem) ?_); intro _ _ _ N' l1; (try dsimp only at N'); (try k_lt l1); (try k_sweep)))
local macro_rules | `(tactic| walk_at "setAttr ref") => `(tactic| (k_here; k_dflt (first
  | (refine' set_exc1 (by k_asm) (by k_asm) (by k_asm) (by k_updF) (by k_is) (by k_is) ?_; intro _ _ _ N' l1; (try dsimp only at N'); (try k_lt l1); (try k_sweep))
  | (refine' set_exc2 (by k_asm) (by k_asm) (by k_asm) (by k_mem) (by k_mem) (by k_is) (by k_is) (by k_get) (by k_put) (by k_upd) (by exact Nat.le_of_ble_eq_true rfl) ?_; intro _ _ N'; (try k_sweep)))))
local macro_rules | `(tactic| k_room) => `(tactic| ktr_room)
set_option maxHeartbeats 8000000 in
theorem ada_ok {w : World} {mean : ExcName → Option Value} {mg mb : Str → Option Value} {dp un : Nat} {gd : Option (List Code)} {cn : Str} {cs : Scope} {a : Addr} {ccd : Value} {cl : List (Str × Addr)} {outer : List Env} {A₀ : Around} {base h₀ : Heap} {L : Addr} {m : Str → Option Value} {s : Shared} {Q E : Value → Shared → Prop}
    {nm9 text : Str} {line : Int} {t1 t2 t3 : Tok} {news : List (Addr × Obj)}
    (B : Below A₀ base outer h₀) (F : Fr h₀ L s.heap m) (X : (Mine.h0.heap_1_1 w.params).In h₀) (T : Top Mine.h0.view_1_2 (looseW Mine.h0.view_1_2 [Str.ofString "UNSET", Str.ofString "Limits", Str.ofString "_law_places"]) mean mg mb h₀) (hk : cs.kind = .function) (hd : dp + 8 < recursionLimit) (hu : un + 200 < cLine)
    (N : News h₀ L s.heap news)
    (ret : ∀ (e t dx : Addr) (es : List DictEntry) (n : Nat) (tok : Tok) (h' : Heap) (tk' : Nat), Fr h₀ L h' m → News h₀ L h' ((dx, dictOf es n) :: (e, exc58 t dx) :: news) → getL "word" es = some (some (.str nm9 tok)) → @Ne Nat dx e → (∀ p ∈ news, p.1 < e) → Q (.ref e) { s with heap := h', toks := tk' }) :
    wpAny (model PySem.Challenge.rw_pp0008_01.row.prog w) (ktrTop dp un gd cn cs L a ccd cl outer) (call (.ref 58) [.str nm9 t1, .int line t2, .str text t3]) Q E s := by
  revert X
  k_fill
  intro X
  k_dflt (refine' call_ada ?F ?N ?X ?r ?i ?f ?_; (case F => k_asm); (case N => k_asm); (case X => k_asm); (case r => exact Nat.le_of_ble_eq_true rfl); (case i => k_is); (case f => k_is); intro e' t' h' F' N' l1 l2; (try k_lt l1); (try k_lt2 l2))
  k_dflt cell_enter
  k_steps
  (with_reducible rename Fr _ _ _ _ => kF9)
  (with_reducible rename News _ _ _ _ => kN9)
  exact ret e' _ _ _ _ _ _ _ kF9 (drop24 kN9) rfl (by omega) (fun p hp => Nat.lt_trans (l1 p hp) l2)
end Mine
end
section
open PySem PySem.W PyProof.Rows PySem.Calls PySem.Spec
namespace Mine
/-! what a flight's steps leave alone: each object's own dict -/
def DictKeep (h h' : Heap) : Prop := ∀ b o, h.get? b = some o → ∃ o', h'.get? b = some o' ∧ o'.dict = o.dict
theorem DictKeep.refl (h : Heap) : DictKeep h h := fun _ o e => ⟨o, e, rfl⟩
theorem DictKeep.trans {h₁ h₂ h₃ : Heap} (x : DictKeep h₁ h₂) (y : DictKeep h₂ h₃) : DictKeep h₁ h₃ := fun b o e =>
  let ⟨o₂, e₂, d₂⟩ := x b o e; let ⟨o₃, e₃, d₃⟩ := y b o₂ e₂; ⟨o₃, e₃, d₃.trans d₂⟩
theorem DictKeep.push {h : Heap} (o : Obj) : DictKeep h (h.push o) := fun _ o' e => ⟨o', Heap.get?_push_of_some _ e, rfl⟩
theorem DictKeep.update {h : Heap} {a : Addr} {f : Obj → Obj} (hf : ∀ o, (f o).dict = o.dict ∧ (f o).isFreed = o.isFreed) : DictKeep h (h.update a f) := fun b o e => by
  by_cases hb : a = b
  · subst hb
    have hfr : o.isFreed = false := (Heap.get?_some_iff.mp e).2
    exact ⟨f o, Heap.get?_update_self _ e ((hf o).2.trans hfr), (hf o).1⟩
  · exact ⟨o, (Heap.get?_update_other _ _ hb).trans e, rfl⟩
def Tame {α : Type} : Sem α → Prop
  | .pure _ => True
  | .raise _ => True
  | .unsupported _ => True
  | .finish _ => True
  | .register _ _ => True
  | .rule _ k => Tame (k ())
  | .at _ k => Tame (k ())
  | .point _ k => Tame (k ())
  | .load _ _ k => ∀ o, Tame (k o)
  | .loadIfAlive _ k => ∀ o, Tame (k o)
  | .update _ _ f k => (∀ o, (f o).dict = o.dict ∧ (f o).isFreed = o.isFreed) ∧ Tame (k ())
  | .alloc _ k => ∀ a, Tame (k a)
  | .fresh k => ∀ t, Tame (k t)
  | .ask k => ∀ S, Tame (k S)
  | .handled _ k => ∀ v, Tame (k v)
  | .stack k => ∀ l, Tame (k l)
  | _ => False
theorem Tame.keeps {α : Type} {M : Model} {Γ : PySem.Ctx} : ∀ {t : Sem α}, Tame t → ∀ {Q : α → Pos → Shared → Prop} {E : Value → Pos → Shared → Prop} {p : Pos} {s : Shared},
    Sem.wp M Γ t (fun a p' s' => DictKeep s.heap s'.heap → Q a p' s') E p s → Sem.wp M Γ t Q E p s := by
  intro t
  induction t with
  | pure a => intro _ Q E p s h; simp only [Sem.wp] at h ⊢; exact h (DictKeep.refl _)
  | raise e => intro _ Q E p s h; simpa only [Sem.wp] using h
  | unsupported w => intro _ Q E p s h; simp only [Sem.wp] at h
  | finish e => intro _ Q E p s h; simp only [Sem.wp] at h
  | register a k ih => intro _ Q E p s h; simp only [Sem.wp] at h
  | rule tag k ih => intro T Q E p s h; simp only [Sem.wp] at h ⊢; exact ih _ T h
  | «at» q k ih => intro T Q E p s h; simp only [Sem.wp] at h ⊢; exact ih _ T h
  | point l k ih => intro T Q E p s h; simp only [Sem.wp] at h ⊢; exact ih _ T h
  | load a q k ih => intro T Q E p s h; simp only [Sem.wp] at h ⊢; obtain ⟨o, ho, h⟩ := h; exact ⟨o, ho, ih _ (T o) h⟩
  | loadIfAlive a k ih => intro T Q E p s h; simp only [Sem.wp] at h ⊢; exact ih _ (T _) h
  | update a q f k ih =>
    intro T Q E p s h
    simp only [Sem.wp] at h ⊢
    obtain ⟨ha, h⟩ := h
    exact ⟨ha, ih _ T.2 (Sem.wp_mono _ _ _ (fun x p' s' z k => z ((DictKeep.update T.1).trans k)) (fun _ _ _ z => z) _ _ h)⟩
  | alloc o k ih =>
    intro T Q E p s h
    simp only [Sem.wp] at h ⊢
    exact ih _ (T _) (Sem.wp_mono _ _ _ (fun x p' s' z k => z ((DictKeep.push o).trans k)) (fun _ _ _ z => z) _ _ h)
  | fresh k ih => intro T Q E p s h; simp only [Sem.wp] at h ⊢; exact ih _ (T _) h
  | ask k ih => intro T Q E p s h; simp only [Sem.wp] at h ⊢; exact ih _ (T _) h
  | handled own k ih => intro T Q E p s h; simp only [Sem.wp] at h ⊢; exact ih _ (T _) h
  | stack k ih => intro T Q E p s h; simp only [Sem.wp] at h ⊢; exact ih _ (T _) h
  | choose => intro T; cases T
  | os => intro T; cases T
  | call => intro T; cases T
  | newGen => intro T; cases T
  | genState => intro T; cases T
  | resume => intro T; cases T
  | yield => intro T; cases T
  | fork => intro T; cases T
  | thread => intro T; cases T
  | await => intro T; cases T
theorem Tame.any {α : Type} {M : Model} {A : Around} {t : Sem α} (T : Tame t) {Q : α → Shared → Prop} {E : Value → Shared → Prop} {s : Shared}
    (h : wpAny M A t (fun a s' => DictKeep s.heap s'.heap → Q a s') E s) : wpAny M A t Q E s := fun Γ p hΓ => T.keeps (h Γ p hΓ)
theorem Tame.bind {α β : Type} {f : α → Sem β} : ∀ {m : Sem α}, Tame m → (∀ a, Tame (f a)) → Tame (m >>= f) := by
  intro m
  show Tame m → _ → Tame (m.bind f)
  induction m with
  | pure a => intro _ k; exact k a
  | raise | unsupported | finish => intro _ _; trivial
  | register a k ih => intro _ _; trivial
  | rule _ k ih | «at» _ k ih | point _ k ih => intro T K; exact ih _ T K
  | load _ _ k ih | loadIfAlive _ k ih | alloc _ k ih | fresh k ih | ask k ih | handled _ k ih | stack k ih => intro T K; exact fun x => ih _ (T x) K
  | update a q f k ih => intro T K; exact ⟨T.1, ih _ T.2 K⟩
  | choose => intro T; cases T
  | os => intro T; cases T
  | call => intro T; cases T
  | newGen => intro T; cases T
  | genState => intro T; cases T
  | resume => intro T; cases T
  | yield => intro T; cases T
  | fork => intro T; cases T
  | thread => intro T; cases T
  | await => intro T; cases T

theorem tame_ite {α : Type} {c : Prop} [Decidable c] {a b : Sem α} (ha : Tame a) (hb : Tame b) : Tame (if c then a else b) := by split <;> assumption
theorem tame_unsup {α : Type} (w : String) : Tame (unsupported w : Sem α) := trivial
theorem tame_load (a : Addr) : Tame (load a) := fun _ => trivial
theorem tame_loadPart (a : Addr) (q : Option Value) : Tame (loadPart a q) := fun _ => trivial
theorem tame_fieldsOf (v : Value) : Tame (fieldsOf v) := by
  unfold fieldsOf
  split
  · refine (tame_load _).bind fun o => ?_
    split <;> trivial
  · trivial
theorem tame_field (v : Value) (i : Nat) : Tame (field v i) := by
  unfold field
  refine (tame_fieldsOf v).bind fun vs => ?_
  split <;> trivial
theorem mapFields_dict (f : Array Value → Array Value) (o : Obj) : (Obj.mapFields f o).dict = o.dict ∧ (Obj.mapFields f o).isFreed = o.isFreed := by
  obtain ⟨c, d, dt, sl⟩ := o
  cases dt <;> exact ⟨rfl, rfl⟩
theorem tame_update (a : Addr) {f : Obj → Obj} (hf : ∀ o, (f o).dict = o.dict ∧ (f o).isFreed = o.isFreed) : Tame (update a f) := ⟨hf, trivial⟩
theorem tame_updateField (a : Addr) (i : Nat) (v : Value) : Tame (updateField a i v) := by
  unfold updateField
  refine (tame_load a).bind fun o => ?_
  split
  · split
    · exact tame_update a (mapFields_dict _)
    · trivial
  · trivial
theorem tame_setField (v : Value) (i : Nat) (x : Value) : Tame (setField v i x) := by
  unfold setField
  split
  · exact tame_updateField _ _ _
  · trivial
theorem tame_stack : Tame stack := fun _ => trivial
theorem tame_setFlight (e : Value) (f : Option Addr) : Tame (setFlight e f) := by
  unfold setFlight
  refine (tame_field e 1).bind fun tb => ?_
  split
  · exact tame_setField _ _ _
  · trivial
theorem tame_newFields (ty : String) (vs : List Value) : Tame (newFields ty vs) := by
  unfold newFields newObj
  dsimp only
  have fin : ∀ d, Tame (newObjAsIs (.type ty) d) := fun d => by
    unfold newObjAsIs
    refine Tame.bind (fun _ => trivial) fun _ => ?_
    trivial
  split
  · exact Tame.bind (tame_unsup _) fun _ => fin _
  · exact fin _
theorem tame_underTheClaimsCaller : Tame underTheClaimsCaller := by
  unfold underTheClaimsCaller
  refine tame_stack.bind fun _ => ?_
  trivial
theorem tame_keptBack (env : Env) (b : Bool) (l : List Env) : Tame (keptBack env b l) := by
  unfold keptBack
  split
  · split
    · trivial
    · exact tame_underTheClaimsCaller.bind fun _ => trivial
  · trivial
theorem tame_behindIsImport (env : Env) (l : List Env) : Tame (behindIsImport env l) := by
  unfold behindIsImport
  split
  · trivial
  · split
    · trivial
    · exact (tame_field _ _).bind fun _ => trivial
theorem slots_dict (sl : Obj → Array (Option Value)) (o : Obj) : ({ o with slots := sl o } : Obj).dict = o.dict ∧ ({ o with slots := sl o } : Obj).isFreed = o.isFreed := by
  obtain ⟨c, d, dt, s⟩ := o
  cases dt <;> exact ⟨rfl, rfl⟩
theorem tame_readyFrames : ∀ l : List Env, Tame (readyFrames l)
  | [] => trivial
  | env :: outer => by
    unfold readyFrames
    split
    · refine (tame_load _).bind fun o => ?_
      split
      · trivial
      · refine (tame_behindIsImport env outer).bind fun b => (tame_keptBack env b outer).bind fun k => (tame_update _ ?_).bind fun _ => tame_readyFrames outer
        exact fun o => slots_dict (fun o => _) o
    · trivial
theorem tame_frameObject (l : List Env) : Tame (frameObject l) := by
  unfold frameObject
  split
  · trivial
  · exact (tame_readyFrames _).bind fun _ => trivial
theorem tame_frameEnvs : Tame frameEnvs := by
  unfold frameEnvs
  refine tame_stack.bind fun _ => ?_
  trivial
theorem tame_frameOf (env : Env) : Tame (PySem.frameOf env) := by
  unfold PySem.frameOf
  refine tame_frameEnvs.bind fun l => (tame_frameObject _).bind fun r => ?_
  split <;> trivial
theorem tame_entryPlaceOf (f : Addr) (b : Bool) : Tame (entryPlaceOf f b) := by
  unfold entryPlaceOf
  refine tame_stack.bind fun _ => ?_
  split <;> trivial
theorem tame_noteFrame (e : Value) (env : Env) : Tame (noteFrame e env) := by
  unfold noteFrame
  split
  · refine (tame_field e 1).bind fun head => ?_
    have fin : ∀ f, Tame (do setField e 1 (← EntryCells.newEntry head (← frameOf env) .none (rawInt f) .none (← entryPlaceOf f (head != .none)))) := fun f =>
      (tame_frameOf env).bind fun _ => (tame_entryPlaceOf _ _).bind fun _ => (tame_newFields _ _).bind fun _ => tame_setField _ _ _
    dsimp only
    split
    · refine (tame_field head 3).bind fun fl => ?_
      split
      · trivial
      · exact (tame_setField _ _ _).bind fun _ => fin _
    · exact fin _
  · trivial
theorem tame_leaving (env : Env) (e : Value) : Tame (leaving env e) := by
  unfold leaving
  exact (tame_noteFrame e env).bind fun _ => tame_setFlight e none
end Mine
end
section
open PySem PySem.W PyProof.Rows PySem.Calls PySem.Spec
namespace Mine
section
variable {M : Model} {A : Around} {base g h : Heap} {outer : List Env} {L : Addr} {m : Str → Option Value} {env : Env}
theorem frames_push (K : Below A base outer g) (F : Fr g L h m) (hk : env.scope.kind = .function) (hf : env.frame = some L) : h.FunFrames base (env :: outer) := by
  have hnew : base.get? L = none := by
    cases hq : base.get? L with
    | none => rfl
    | some o => exact absurd (Nat.lt_of_lt_of_le (Heap.lt_size (K.stays L o hq)) F.above) (Nat.lt_irrefl _)
  exact .cons (by rw [hk]; decide) hf F.ns hnew (K.frames.of_keeps fun b o e _ => ⟨o, F.keep b o e, rfl⟩)
end
/-- an exception of the text's own in flight: its word is known, the ledger stands -/
def RaisedD (base : Heap) (l : List Env) (e : Addr) (word : Str) (news : List (Addr × Obj)) (h : Heap) : Prop :=
  ∃ B t dx es n tok, base.StaysIn B ∧ (∀ q ∈ news, B.get? q.1 = some q.2 ∧ base.get? q.1 = none) ∧ Heap.FlyingW B l e (.ref 58) t h ∧ (∃ oe, h.get? e = some oe ∧ oe.dict = some dx) ∧
    B.get? dx = some (dictOf es n) ∧ base.get? dx = none ∧ getL "word" es = some (some (.str word tok))
section
variable {M : Model} {A : Around} {E : Value → Shared → Prop} {s' : Shared} {base g g₂ : Heap} {outer : List Env} {L e dx t : Addr} {m : Str → Option Value} {env : Env} {Q : Unit → Shared → Prop} {all news : List (Addr × Obj)} {word : Str} {es : List DictEntry} {n : Nat} {tok : Tok}
theorem leave_raiseD (K : Below A base outer g) (F : Fr g L s'.heap m) (N : News g L s'.heap all) (he : (e, exc58 t dx) ∈ all) (hdx : (dx, dictOf es n) ∈ all) (hw : getL "word" es = some (some (.str word tok)))
    (hsub : ∀ q ∈ news, q ∈ all) (hne : ∀ q ∈ news, q.1 ≠ e) (hde : dx ≠ e)
    (hQ : ∀ h', RaisedD base outer e word news h' → g.UpToSlots h' → Q () { s' with heap := h' }) (hk : env.scope.kind = .function) (hf : env.frame = some L) :
    wpAny M (A.deeper env) (leaving env (.ref e)) Q E s' := by
  have FF := frames_push (env := env) K F hk hf
  have kb : base.StaysIn s'.heap := fun b o q => F.keep b o (K.stays b o q)
  have heB : base.get? e = none := fresh_of_stays K.stays (N _ he).2.2
  have hin : ∀ env' ∈ (env :: outer), ∀ b, env'.frame = some b → b ∈ e :: (env :: outer).filterMap (·.frame) := fun env' h1 b hb => List.mem_cons_of_mem _ (List.mem_filterMap.mpr ⟨env', h1, hb⟩)
  have off : ∀ b o, s'.heap.get? b = some o → b ≠ e → (∀ vs, o.data = .fields vs → False) ∨ True → b ∉ (env :: outer).filterMap (·.frame) → (hideAll s'.heap (e :: (env :: outer).filterMap (·.frame))).get? b = some o := fun b o q h1 _ h2 =>
    hideAll_get _ q fun hm => by
      rcases List.mem_cons.mp hm with rfl | hm
      · exact h1 rfl
      · exact h2 hm
  have st : base.StaysIn (hideAll s'.heap (e :: (env :: outer).filterMap (·.frame))) := fun b o q => off b o (kb b o q) (fun z => by rw [z, heB] at q; cases q) (.inr trivial) fun hm => by rw [(FF.mem hm).1] at q; cases q
  have led : ∀ q ∈ all, q.1 ≠ e → (hideAll s'.heap (e :: (env :: outer).filterMap (·.frame))).get? q.1 = some q.2 ∧ base.get? q.1 = none := fun q hq h1 => by
    refine ⟨off _ _ (N q hq).1 h1 (.inr trivial) fun hm => ?_, fresh_of_stays K.stays (N q hq).2.2⟩
    obtain ⟨env', h2, h3⟩ := List.mem_filterMap.mp hm
    rcases List.mem_cons.mp h2 with rfl | h2
    · exact (N q hq).2.1 (Option.some.inj (hf.symm.trans h3)).symm
    · obtain ⟨o, ho, _⟩ := (K.frames.mem (List.mem_filterMap.mpr ⟨env', h2, h3⟩)).2
      rw [(N q hq).2.2] at ho; cases ho
  have hen : (hideAll s'.heap (e :: (env :: outer).filterMap (·.frame))).get? e = none := hideAll_none _ (.head _)
  refine (tame_leaving env (.ref e)).any ?_
  refine wpAny_leaving_firstW (a0 := .ref t) (Around.frames_deeper K.stack) (funFrames_hide FF hin) hf (N _ he).1 (fun b o q => of_hideAll _ q) hen rfl rfl rfl fun h' hL hD => ?_
  obtain ⟨k1, ⟨_, _, k2⟩, k3, k4⟩ := hL
  obtain ⟨oe', ho', hd'⟩ := hD _ _ (N _ he).1
  exact hQ h' ⟨_, .ref t, dx, es, n, tok, st, fun q hq => led q (hsub q hq) (hne q hq), ⟨k1, hen, k2, k3⟩, ⟨oe', ho', hd'⟩, (led _ hdx hde).1, (led _ hdx hde).2, hw⟩ ((Heap.UpToSlots.of_keeps F.keep).trans k4)
theorem leave_onD (K : Below A base outer g) (F : Fr g L g₂ m) (R : RaisedD base (env :: outer) e word news s'.heap) (hsm : g₂.UpToSlots s'.heap)
    (hQ : ∀ h', RaisedD base outer e word news h' → g.UpToSlots h' → Q () { s' with heap := h' }) (hf : env.frame = some L) :
    wpAny M (A.deeper env) (leaving env (.ref e)) Q E s' := by
  obtain ⟨B, a0, dx, es, n, tok, hB, hl, hfl, ⟨oe, ho, hd⟩, hdx, hdb, hw⟩ := R
  refine (tame_leaving env (.ref e)).any ?_
  refine wpAny_leaves_onW (Around.frames_deeper K.stack) hf hfl fun h' x1 x2 hD => ?_
  obtain ⟨oe', ho', hd'⟩ := hD _ _ ho
  exact hQ h' ⟨B, a0, dx, es, n, tok, hB, hl, x1, ⟨oe', ho', hd'.trans hd⟩, hdx, hdb, hw⟩ ((Heap.UpToSlots.of_keeps F.keep).trans (hsm.trans x2))
end
/-- a raise of what was made -/
theorem raise_ada {M : Model} {A : Around} {E : Value → Shared → Prop} {s : Shared} {env : Env} {exp : PySem.Expr} {pos : Pos} {Q : Flow → Shared → Prop} {P : Params} (hh : A.handled = none)
    (h : wpAny M A (eval exp env) (fun v s₁ => ∃ e t dx, v = .ref e ∧ (Mine.h0.heap_1_1 P).In s₁.heap ∧ s₁.heap.get? e = some (exc58 t dx) ∧ E (.ref e) s₁) E s) :
    wpAny M A (exec (.Raise (some exp) none pos) env) Q E s := by
  rw [arm_exec_Raise]
  refine wpAny_bind (wpAny_standAt ?_)
  show wpAny M A (raiseStmt env (some (do let v ← eval exp env; standAt pos; pure v)) none) Q E s
  unfold raiseStmt
  refine wpAny_bind (wpAny_bind (wpAny_mono h (fun v s₁ h₁ => wpAny_bind (wpAny_standAt (wpAny_pure ?_))) fun _ _ x => x))
  obtain ⟨e, t, dx, rfl, X, he, hE⟩ := h₁
  have hC := X 58 _ (by rfl)
  have hcB : (Value.ref 58 :: [Value.ref 38, .type "Exception", .type "BaseException", .type "object"]).contains (.type "BaseException") = true := by decide +kernel
  obtain ⟨hp, g, d, tk, os⟩ := s₁
  repeat (first | with_reducible refine wpAny_loadPart_at he ?_ | with_reducible refine wpAny_loadPart_at hC ?_ | (with_reducible refine wpAny_isSubtype_exc hC ?_; rw [hcB]) | wp_step)
  exact wpAny_raiseNew_none hh hE
end Mine
end
open Mine
local macro_rules | `(tactic| walk_at "exec Raise some none") => `(tactic| (k_here; refine raise_ada (P := $(Lean.mkIdent `w).params) rfl ?_))
local macro_rules | `(tactic| walk_at "Exists") => `(tactic| (k_here; (with_reducible rename Frag.In _ _ => kX9); (with_reducible rename News _ _ _ _ => kN9); (with_reducible rename Fr _ _ _ _ => kF9); refine ⟨_, _, _, rfl, (fun a o q => kF9.keep _ _ (kX9 a o q)), (kN9 _ (.tail _ (.head _))).1, ?_⟩))
local macro_rules | `(tactic| walk_at "leaving ref") => `(tactic| (k_here; k_dflt (refine' leave_raiseD (news := $(Lean.mkIdent `news)) (by k_asm) (by k_asm) (by k_asm) (.tail _ (.head _)) (.head _) ?w ?s ?n ?d ?_ rfl rfl; (case w => assumption); (case s => (intro p hp; repeat (first | exact hp | refine List.Mem.tail _ ?_))); (case n => exact fun q hq => Nat.ne_of_lt ((by assumption : ∀ p ∈ _, p.1 < _) q (by repeat (first | exact hq | refine List.Mem.tail _ ?_)))); (case d => assumption))))
section
open PySem PySem.W PyProof.Rows PySem.Calls PySem.Spec
namespace Mine
local macro_rules | `(tactic| k_room) => `(tactic| ktr_room)
local macro_rules | `(tactic| k_all) => `(tactic| first | assumption | exact all_ne (by assumption) (by omega))
local macro_rules | `(tactic| k_mem) => `(tactic| first | with_reducible exact memH | (with_reducible refine' memT ?_; k_mem) | with_reducible assumption)
local macro_rules | `(tactic| k_get) => `(tactic| assumption)
local macro_rules | `(tactic| walk_at "compareOp In str ref") => `(tactic| (k_here; k_dflt (refine' kda_in (knd := PySem.strKind _ _) (by k_asm) (by k_mem) (by assumption) (by assumption) (strKind_is _ _ _ _) _ (by assumption) ?_)))
local macro_rules | `(tactic| walk_at "subscriptTail") => `(tactic| (k_here; (with_reducible show wpAny _ _ (subscriptTail _ _ (Value.ref _) (Value.str _ _)) _ _ _); k_dflt (refine' kda_item (knd := PySem.strKind _ _) (by k_asm) (by k_mem) (by assumption) (strKind_is _ _ _ _) (by assumption) ?_)))
local macro_rules | `(tactic| walk_at "call ref") => `(tactic| (k_here; (with_reducible show wpAny _ _ (call (Value.ref 58) _) _ _ _); k_dflt (refine' ada_ok (by k_asm) (by k_asm) (by k_asm) (by k_asm) (by first | rfl | assumption) (by ktr_room) (by ktr_units) (by k_asm) ?_; intro _ _ _ _ _ _ _ _ _ _ _ _ _)))
local macro_rules | `(tactic| walk_at "leaving ref") => `(tactic| (k_here; k_dflt (refine' leave_raiseD (by k_asm) (by k_asm) (by k_asm) (.tail _ (.head _)) (.head _) (by assumption) (by exact fun q hq => .tail _ (.tail _ hq)) (by exact fun q hq => Nat.ne_of_lt (by first | (apply_assumption; exact hq) | exact hq)) (by assumption) ?_ rfl rfl)))
def frv (inn out : Addr) (av : Option Nat) (_ : Tok) : Value := match av with | none => .none | some 0 => .ref out | some _ => .ref inn
theorem While_nm {prog : Program} {w : World} {A : Around} {E : Value → Shared → Prop} {Q : Flow → Shared → Prop} {s : Shared} {env : Env} {h₀ : Heap} {L : Addr} {test : Expr} {body : List Stmt} {pos : Pos} {m : Str → Option Value} {news : List (Addr × Obj)} {v₀ : Value}
    (x : Str) (val : Option Nat → Tok → Value) (P : Option Nat → Prop) (av₀ : Option Nat) (t₀ : Tok)
    (F : Fr h₀ L s.heap m) (N : News h₀ L s.heap news) (hm : m x = some v₀) (hv : v₀ = val av₀ t₀) (hP : P av₀)
    (turn : ∀ av t h tk, P av → Fr h₀ L h (fun y => if y = x then some (val av t) else m y) → News h₀ L h news →
      wpAny (model prog w) A (isTrue test env (eval test env)) (fun b s₂ =>
        if b = true then wpAny (model prog w) A (execs body env) (AtStep h₀ L s m news x val P Q (rankO av)) E s₂ else Q .next s₂) E { s with heap := h, toks := tk })
    (hE : PassesOwn (model prog w) A env E := by passes_own) :
    wpAny (model prog w) A (exec (.While test body [] pos) env) Q E s := by
  refine While_at x val P av₀ t₀ ?_ N hv hP turn hE
  have e : m = fun y => if y = x then some v₀ else m y := by
    funext y
    by_cases h : y = x
    · rw [h, hm]; simp
    · simp [h]
  rw [← e]; exact F
set_option maxHeartbeats 8000000 in
theorem named_ok {w : World} {mean : ExcName → Option Value} {mg mb : Str → Option Value} {dp un : Nat} {gd : Option (List Code)} {cn : Str} {cs : Scope} {a : Addr} {ccd : Value} {cl : List (Str × Addr)} {outer : List Env} {A₀ : Around} {base h₀ : Heap} {L : Addr} {m : Str → Option Value} {s : Shared} {Q E : Value → Shared → Prop}
    {news : List (Addr × Obj)} {run dr inn di out do_ nin nout : Addr} {esr esi eso : List DictEntry} {nr ni no : Nat} {oin oout : Obj} {kin kout : List (Str × Value)} {name : Str} {t1 tl : Tok} {i o : Option Addr}
    (B : Below A₀ base outer h₀) (F : Fr h₀ L s.heap m) (X : (Mine.h0.heap_1_1 w.params).In h₀) (T : Top Mine.h0.view_1_2 (looseW Mine.h0.view_1_2 [Str.ofString "UNSET", Str.ofString "Limits", Str.ofString "_law_places"]) mean mg mb h₀) (hk : cs.kind = .function) (hd : dp + 10 < recursionLimit) (hu : un + 220 < cLine)
    (N : News h₀ L s.heap news)
    (hrun : (run, instObj 232 dr) ∈ news) (hdr : (dr, dictOf esr nr) ∈ news) (hline : getL (Str.ofString "line") esr = some (some (.int 0 tl)))
    (hinn : (inn, instObj 211 di) ∈ news) (hdi : (di, dictOf esi ni) ∈ news) (hnames : getL (Str.ofString "names") esi = some (some (.ref nin))) (hpar : getL (Str.ofString "parent") esi = some (some (.ref out)))
    (hout : (out, instObj 211 do_) ∈ news) (hdo : (do_, dictOf eso no) ∈ news) (hnames' : getL (Str.ofString "names") eso = some (some (.ref nout))) (hpar' : getL (Str.ofString "parent") eso = some (some .none))
    (hnin : (nin, oin) ∈ news) (hoin : oin.IsDictOf (PySem.strKind PySem.Challenge.rw_pp0008_01.row.prog w) kin) (hlin : (nin == sysModules) = false)
    (hnout : (nout, oout) ∈ news) (hoout : oout.IsDictOf (PySem.strKind PySem.Challenge.rw_pp0008_01.row.prog w) kout) (hlout : (nout == sysModules) = false)
    (hi : valueAt kin name = i.map Value.ref) (ho : valueAt kout name = o.map Value.ref)
    (ret : ∀ (th : Addr) (h' : Heap) (tk' : Nat), i = some th ∨ (i = none ∧ o = some th) → Fr h₀ L h' m → News h₀ L h' news → Q (.ref th) { s with heap := h', toks := tk' })
    (exc : i = none → o = none → ∀ (e : Addr) (h' : Heap) (tk' : Nat) (g₂ : Heap), RaisedD base (envX cn cs L a ccd cl :: outer) e (Str.ofString "program_error") news h' → Fr h₀ L g₂ m → g₂.UpToSlots h' → E (.ref e) { s with heap := h', toks := tk' }) :
    wpAny (model PySem.Challenge.rw_pp0008_01.row.prog w) (ktrTop dp un gd cn cs L a ccd cl outer) (call (.ref 168) [.ref run, .ref inn, .str name t1]) Q E s := by
  revert X
  k_fill
  intro X
  refine wpAny_call ?_
  k_dflt cell_enter
  iterate 2 (first | (k_unfold; (try dsimp only)) | (k_end; wrow_close) | walk1 | (dsimp only; walk1) | (leave1; walk_say "STEP leave1"; try dsimp only) | fail "no step")
  refine' While_nm (Str.ofString "frame") (frv inn out) (fun av => av = some 1 ∨ (av = some 0 ∧ i = none) ∨ (av = none ∧ i = none ∧ o = none)) (some 1) 0 ?cF ?cN ?cm ?cv (.inl rfl) ?_
  (case cF => k_asm)
  case cN => k_asm
  case cm => with_unfolding_all rfl
  case cv => rfl
  rintro av t h' tk' hP F' N'
  rcases hP with rfl | ⟨rfl, rfl⟩ | ⟨rfl, rfl, rfl⟩
  · change Fr _ _ _ (fun y => if y = Str.ofString "frame" then some (Value.ref inn) else _) at F'
    rcases i with _ | i
    · have hb1 : (valueAt kin name).isSome = false := by rw [hi]; exact rfl
      k_steps
      (with_reducible rename Fr _ _ _ _ => kF9); (with_reducible rename News _ _ _ _ => kN9)
      refine ⟨_, _, _, _, some 0, 0, rfl, kF9, kN9, ?_, rfl, ?_, by decide, .inr (.inl ⟨rfl, rfl⟩)⟩
      · intro p hp; repeat (first | exact hp | refine List.Mem.tail _ ?_)
      · intro y hy; simp only [if_neg hy]
    · have hb1 : (valueAt kin name).isSome = true := by rw [hi]; exact rfl
      k_steps
      dsimp only
      k_steps
      unfold AtStep
      dsimp only
      k_steps
      (with_reducible rename Fr _ _ _ _ => kF9); (with_reducible rename News _ _ _ _ => kN9)
      exact ret _ _ _ (.inl rfl) kF9 (cb_drop kN9 (by intro p hp; repeat (first | exact hp | refine List.Mem.tail _ ?_)))
  · change Fr _ _ _ (fun y => if y = Str.ofString "frame" then some (Value.ref out) else _) at F'
    rcases o with _ | o
    · have hb1 : (valueAt kout name).isSome = false := by rw [ho]; exact rfl
      k_steps
      (with_reducible rename Fr _ _ _ _ => kF9); (with_reducible rename News _ _ _ _ => kN9)
      refine ⟨_, _, _, _, none, 0, rfl, kF9, kN9, ?_, rfl, ?_, by decide, .inr (.inr ⟨rfl, rfl, rfl⟩)⟩
      · intro p hp; repeat (first | exact hp | refine List.Mem.tail _ ?_)
      · intro y hy; simp only [if_neg hy]
    · have hb1 : (valueAt kout name).isSome = true := by rw [ho]; exact rfl
      k_steps
      dsimp only
      k_steps
      unfold AtStep
      dsimp only
      k_steps
      (with_reducible rename Fr _ _ _ _ => kF9); (with_reducible rename News _ _ _ _ => kN9)
      exact ret _ _ _ (.inr ⟨rfl, rfl⟩) kF9 (cb_drop kN9 (by intro p hp; repeat (first | exact hp | refine List.Mem.tail _ ?_)))
  · change Fr _ _ _ (fun y => if y = Str.ofString "frame" then some Value.none else _) at F'
    k_steps
    refine' exc rfl rfl _ _ _ _ ?cR ?cF ?cU
    case cR => assumption
    case cU => assumption
    case cF => assumption
end Mine
end
section
open PySem PySem.W PyProof.Rows PySem.Calls PySem.Spec
namespace Mine
theorem turn_end {h₀ : Heap} {L I : Addr} {o : Obj} {rest : (Str → Option Value) → List (Addr × Obj) → Prop} {s₁ : Shared} {h' : Heap} {tk : Nat} {m' : Str → Option Value} {news' : List (Addr × Obj)} (F : Fr h₀ L h' m') (N : News h₀ L h' ((I, o) :: news'))
    (off : ∀ p ∈ news', p.1 ≠ I) (r : rest m' news') : UnrEndW h₀ L s₁ [(I, o)] rest { s₁ with heap := h', toks := tk } :=
  ⟨h', tk, m', news', rfl, F, N, fun p hp q hq => by rw [List.mem_singleton.mp hq]; exact off p hp, r⟩
local macro_rules | `(tactic| walk_at "UnrEndW") => `(tactic| ((with_reducible rename News _ _ _ _ => kN9); (with_reducible rename Fr _ _ _ _ => kF9); refine turn_end kF9 kN9 ?_ ⟨by k_subL, ?_⟩; (exact fun p hp => Nat.ne_of_lt (by apply_assumption; exact hp))))
local macro_rules | `(tactic| walk_at "pyIter ref") => `(tactic| (k_here; (with_reducible show wpAny _ _ (pyIter (Value.ref _)) (fun it s₂ => TurnsAt _ _ _ _ _ _ _ _ _ it s₂) _ _); k_dflt (refine' iter_listTurns (by rfl) (by k_asm) (by k_asm) (by k_mem) (by rfl) (by rfl) ?_); intro _ l1; have l0 := l1; (try k_lt l1)))
local macro_rules | `(tactic| k_room) => `(tactic| ktr_room)
local macro_rules | `(tactic| k_all) => `(tactic| first | assumption | exact all_ne (by assumption) (by omega))
local macro_rules | `(tactic| k_mem) => `(tactic| first | with_reducible exact memH | (with_reducible refine' memT ?_; k_mem) | with_reducible assumption)
local macro_rules | `(tactic| k_get) => `(tactic| assumption)
local macro_rules | `(tactic| walk_at "call ref") => `(tactic| (k_here; (with_reducible show wpAny _ _ (call (Value.ref 58) _) _ _ _); k_dflt (refine' ada_ok (by k_asm) (by k_asm) (by k_asm) (by k_asm) (by first | rfl | assumption) (by ktr_room) (by ktr_units) (by k_asm) ?_; intro _ _ _ _ _ _ _ _ _ _ _ _ _)))
local macro_rules | `(tactic| walk_at "compareOp NotEq int int") => `(tactic| (k_here; refine ne_known (by assumption) ?_))
local macro_rules | `(tactic| walk_at "exec For Name Subscript cons nil") => `(tactic| (k_here; (rename Fr _ _ _ _ => lF'); (with_unfolding_all refine' For_turns lF' ?_; k_whole)))
local macro_rules | `(tactic| walk_at "subscriptTail") => `(tactic| (k_here; (with_reducible show wpAny _ _ (subscriptTail _ _ (Value.ref _) (Value.int _ _)) _ _ _); k_dflt (refine' item_led (by k_asm) (by k_mem) (by decide) (by decide) (by rfl) ?_; k_whole)))
/-- the types line: three objects, each with a dict that holds its number -/
structure Kinds (news : List (Addr × Obj)) (T D : Nat → Addr) (es : Nat → List DictEntry) (nT : Nat → Nat) (tT : Nat → Tok) : Prop where
  ty : ∀ k, k < 3 → (T k, instObj 296 (D k)) ∈ news
  di : ∀ k, k < 3 → (D k, dictOf (es k) (nT k)) ∈ news
  num : ∀ k, k < 3 → getL (Str.ofString "number") (es k) = some (some (.int (80 + (k : Int)) (tT k)))
set_option maxHeartbeats 8000000 in
theorem common_ok {w : World} {mean : ExcName → Option Value} {mg mb : Str → Option Value} {dp un : Nat} {gd : Option (List Code)} {cn : Str} {cs : Scope} {a : Addr} {ccd : Value} {cl : List (Str × Addr)} {outer : List Env} {A₀ : Around} {base h₀ : Heap} {L : Addr} {m : Str → Option Value} {s : Shared} {Q E : Value → Shared → Prop}
    {news : List (Addr × Obj)} {tl : Addr} {T D : Nat → Addr} {es : Nat → List DictEntry} {nT : Nat → Nat} {tT : Nat → Tok} {q : Nat} {rest : List Nat} {nl : Nat} {t1 : Tok}
    (B : Below A₀ base outer h₀) (F : Fr h₀ L s.heap m) (X : (Mine.h0.heap_1_1 w.params).In h₀) (T9 : Top Mine.h0.view_1_2 (looseW Mine.h0.view_1_2 [Str.ofString "UNSET", Str.ofString "Limits", Str.ofString "_law_places"]) mean mg mb h₀) (hk : cs.kind = .function) (hd : dp + 10 < recursionLimit) (hu : un + 220 < cLine)
    (N : News h₀ L s.heap news) (K : Kinds news T D es nT tT)
    (hl : (tl, W.listOf ((q :: rest).map fun k => Value.ref (T k)).toArray nl) ∈ news) (hr : rest.length ≤ 2) (hq : q < 3) (hrq : ∀ k ∈ rest, k < 3)
    (ret : ∀ (h' : Heap) (tk' : Nat), rest.any (fun k => decide (k ≠ q)) = false → Fr h₀ L h' m → News h₀ L h' news → Q (.ref (T q)) { s with heap := h', toks := tk' })
    (exc : rest.any (fun k => decide (k ≠ q)) = true → ∀ (e : Addr) (h' : Heap) (tk' : Nat) (g₂ : Heap), RaisedD base (envX cn cs L a ccd cl :: outer) e (Str.ofString "constraint_error") news h' → Fr h₀ L g₂ m → g₂.UpToSlots h' → E (.ref e) { s with heap := h', toks := tk' }) :
    wpAny (model PySem.Challenge.rw_pp0008_01.row.prog w) (ktrTop dp un gd cn cs L a ccd cl outer) (call (.ref 67) [.ref tl, .int 0 t1]) Q E s := by
  have a1 := K.ty q hq
  have a2 := K.di q hq
  have a3 := K.num q hq
  rcases rest with _ | ⟨r, _ | ⟨r2, _ | ⟨r3, rr⟩⟩⟩
  · simp only [List.map_cons, List.map_nil] at hl
    revert X
    k_fill
    intro X
    refine wpAny_call ?_
    k_dflt cell_enter
    k_steps
    (with_reducible rename Fr _ _ _ _ => kF9); (with_reducible rename News _ _ _ _ => kN9)
    exact ret _ _ (by simp) kF9 (cb_drop kN9 (by intro p hp; repeat (first | exact hp | refine List.Mem.tail _ ?_)))
  · simp only [List.map_cons, List.map_nil] at hl
    have b1r := K.ty r (hrq _ (by simp))
    have b2r := K.di r (hrq _ (by simp))
    have b3r := K.num r (hrq _ (by simp))
    by_cases er : r = q
    · have ner : (80 + (r : Int) != 80 + (q : Int)) = false := by subst er; simp
      revert X
      k_fill
      intro X
      refine wpAny_call ?_
      k_dflt cell_enter
      k_steps
      (with_reducible rename Fr _ _ _ _ => kF9); (with_reducible rename News _ _ _ _ => kN9)
      exact ret _ _ (by simp [er]) kF9 (cb_drop kN9 (by intro p hp; repeat (first | exact hp | refine List.Mem.tail _ ?_)))
    · have ner : (80 + (r : Int) != 80 + (q : Int)) = true := by simp; omega
      revert X
      k_fill
      intro X
      refine wpAny_call ?_
      k_dflt cell_enter
      k_steps
      refine' exc (by simp [er]) _ _ _ _ ?cR ?cF ?cU
      case cR => assumption
      case cU => assumption
      case cF => assumption
  · simp only [List.map_cons, List.map_nil] at hl
    have b1r := K.ty r (hrq _ (by simp))
    have b2r := K.di r (hrq _ (by simp))
    have b3r := K.num r (hrq _ (by simp))
    have b1r2 := K.ty r2 (hrq _ (by simp))
    have b2r2 := K.di r2 (hrq _ (by simp))
    have b3r2 := K.num r2 (hrq _ (by simp))
    by_cases er : r = q
    · have ner : (80 + (r : Int) != 80 + (q : Int)) = false := by subst er; simp
      by_cases er2 : r2 = q
      · have ner2 : (80 + (r2 : Int) != 80 + (q : Int)) = false := by subst er2; simp
        revert X
        k_fill
        intro X
        refine wpAny_call ?_
        k_dflt cell_enter
        k_steps
        (with_reducible rename Fr _ _ _ _ => kF9); (with_reducible rename News _ _ _ _ => kN9)
        exact ret _ _ (by simp [er, er2]) kF9 (cb_drop kN9 (by intro p hp; repeat (first | exact hp | refine List.Mem.tail _ ?_)))
      · have ner2 : (80 + (r2 : Int) != 80 + (q : Int)) = true := by simp; omega
        revert X
        k_fill
        intro X
        refine wpAny_call ?_
        k_dflt cell_enter
        k_steps
        refine' exc (by simp [er2]) _ _ _ _ ?cR ?cF ?cU
        case cR => assumption
        case cU => assumption
        case cF => assumption
    · have ner : (80 + (r : Int) != 80 + (q : Int)) = true := by simp; omega
      revert X
      k_fill
      intro X
      refine wpAny_call ?_
      k_dflt cell_enter
      k_steps
      refine' exc (by simp [er]) _ _ _ _ ?cR ?cF ?cU
      case cR => assumption
      case cU => assumption
      case cF => assumption
  · simp at hr
end Mine
end
section
open PySem PySem.W PyProof.Rows PySem.Calls PySem.Spec
namespace Mine
theorem named_hit {th : Addr} {w : World} {mean : ExcName → Option Value} {mg mb : Str → Option Value} {dp un : Nat} {gd : Option (List Code)} {cn : Str} {cs : Scope} {a : Addr} {ccd : Value} {cl : List (Str × Addr)} {outer : List Env} {A₀ : Around} {base h₀ : Heap} {L : Addr} {m : Str → Option Value} {s : Shared} {Q E : Value → Shared → Prop}
    {news : List (Addr × Obj)} {run dr inn di out do_ nin nout : Addr} {esr esi eso : List DictEntry} {nr ni no : Nat} {oin oout : Obj} {kin kout : List (Str × Value)} {name : Str} {t1 tl : Tok}
    (B : Below A₀ base outer h₀) (F : Fr h₀ L s.heap m) (X : (Mine.h0.heap_1_1 w.params).In h₀) (T : Top Mine.h0.view_1_2 (looseW Mine.h0.view_1_2 [Str.ofString "UNSET", Str.ofString "Limits", Str.ofString "_law_places"]) mean mg mb h₀) (hk : cs.kind = .function) (hd : dp + 10 < recursionLimit) (hu : un + 220 < cLine)
    (N : News h₀ L s.heap news)
    (hrun : (run, instObj 232 dr) ∈ news) (hdr : (dr, dictOf esr nr) ∈ news) (hline : getL (Str.ofString "line") esr = some (some (.int 0 tl)))
    (hinn : (inn, instObj 211 di) ∈ news) (hdi : (di, dictOf esi ni) ∈ news) (hnames : getL (Str.ofString "names") esi = some (some (.ref nin))) (hpar : getL (Str.ofString "parent") esi = some (some (.ref out)))
    (hout : (out, instObj 211 do_) ∈ news) (hdo : (do_, dictOf eso no) ∈ news) (hnames' : getL (Str.ofString "names") eso = some (some (.ref nout))) (hpar' : getL (Str.ofString "parent") eso = some (some .none))
    (hnin : (nin, oin) ∈ news) (hoin : oin.IsDictOf (PySem.strKind PySem.Challenge.rw_pp0008_01.row.prog w) kin) (hlin : (nin == sysModules) = false)
    (hnout : (nout, oout) ∈ news) (hoout : oout.IsDictOf (PySem.strKind PySem.Challenge.rw_pp0008_01.row.prog w) kout) (hlout : (nout == sysModules) = false)
    (hit : (valueAt kin name = some (.ref th) ∧ valueAt kout name = none) ∨ (valueAt kin name = none ∧ valueAt kout name = some (.ref th)))
    (ret : ∀ (h' : Heap) (tk' : Nat), Fr h₀ L h' m → News h₀ L h' news → Q (.ref th) { s with heap := h', toks := tk' }) :
    wpAny (model PySem.Challenge.rw_pp0008_01.row.prog w) (ktrTop dp un gd cn cs L a ccd cl outer) (call (.ref 168) [.ref run, .ref inn, .str name t1]) Q E s := by
  rcases hit with ⟨h, ho⟩ | ⟨h, h2⟩
  · exact named_ok (i := some th) (o := none) B F X T hk hd hu N hrun hdr hline hinn hdi hnames hpar hout hdo hnames' hpar' hnin hoin hlin hnout hoout hlout h ho (fun th' h' tk' x => by rcases x with x | ⟨x, _⟩ <;> cases x; exact ret h' tk') (fun x => by cases x)
  · exact named_ok (i := none) (o := some th) B F X T hk hd hu N hrun hdr hline hinn hdi hnames hpar hout hdo hnames' hpar' hnin hoin hlin hnout hoout hlout h h2 (fun th' h' tk' x => by rcases x with x | ⟨_, x⟩ <;> cases x; exact ret h' tk') (fun _ x => by cases x)
theorem named_no {w : World} {mean : ExcName → Option Value} {mg mb : Str → Option Value} {dp un : Nat} {gd : Option (List Code)} {cn : Str} {cs : Scope} {a : Addr} {ccd : Value} {cl : List (Str × Addr)} {outer : List Env} {A₀ : Around} {base h₀ : Heap} {L : Addr} {m : Str → Option Value} {s : Shared} {Q E : Value → Shared → Prop}
    {news : List (Addr × Obj)} {run dr inn di out do_ nin nout : Addr} {esr esi eso : List DictEntry} {nr ni no : Nat} {oin oout : Obj} {kin kout : List (Str × Value)} {name : Str} {t1 tl : Tok}
    (B : Below A₀ base outer h₀) (F : Fr h₀ L s.heap m) (X : (Mine.h0.heap_1_1 w.params).In h₀) (T : Top Mine.h0.view_1_2 (looseW Mine.h0.view_1_2 [Str.ofString "UNSET", Str.ofString "Limits", Str.ofString "_law_places"]) mean mg mb h₀) (hk : cs.kind = .function) (hd : dp + 10 < recursionLimit) (hu : un + 220 < cLine)
    (N : News h₀ L s.heap news)
    (hrun : (run, instObj 232 dr) ∈ news) (hdr : (dr, dictOf esr nr) ∈ news) (hline : getL (Str.ofString "line") esr = some (some (.int 0 tl)))
    (hinn : (inn, instObj 211 di) ∈ news) (hdi : (di, dictOf esi ni) ∈ news) (hnames : getL (Str.ofString "names") esi = some (some (.ref nin))) (hpar : getL (Str.ofString "parent") esi = some (some (.ref out)))
    (hout : (out, instObj 211 do_) ∈ news) (hdo : (do_, dictOf eso no) ∈ news) (hnames' : getL (Str.ofString "names") eso = some (some (.ref nout))) (hpar' : getL (Str.ofString "parent") eso = some (some .none))
    (hnin : (nin, oin) ∈ news) (hoin : oin.IsDictOf (PySem.strKind PySem.Challenge.rw_pp0008_01.row.prog w) kin) (hlin : (nin == sysModules) = false)
    (hnout : (nout, oout) ∈ news) (hoout : oout.IsDictOf (PySem.strKind PySem.Challenge.rw_pp0008_01.row.prog w) kout) (hlout : (nout == sysModules) = false)
    (hi : valueAt kin name = none) (ho : valueAt kout name = none)
    (exc : ∀ (e : Addr) (h' : Heap) (tk' : Nat) (g₂ : Heap), RaisedD base (envX cn cs L a ccd cl :: outer) e (Str.ofString "program_error") news h' → Fr h₀ L g₂ m → g₂.UpToSlots h' → E (.ref e) { s with heap := h', toks := tk' }) :
    wpAny (model PySem.Challenge.rw_pp0008_01.row.prog w) (ktrTop dp un gd cn cs L a ccd cl outer) (call (.ref 168) [.ref run, .ref inn, .str name t1]) Q E s :=
  named_ok (i := none) (o := none) B F X T hk hd hu N hrun hdr hline hinn hdi hnames hpar hout hdo hnames' hpar' hnin hoin hlin hnout hoout hlout hi ho (fun th' h' tk' x => by rcases x with x | ⟨_, x⟩ <;> cases x) (fun _ _ => exc)
theorem Kinds.mono {news news' : List (Addr × Obj)} {T D : Nat → Addr} {es : Nat → List DictEntry} {nT : Nat → Nat} {tT : Nat → Tok} (K : Kinds news T D es nT tT) (sub : ∀ p ∈ news, p ∈ news') : Kinds news' T D es nT tT :=
  ⟨fun k h => sub _ (K.ty k h), fun k h => sub _ (K.di k h), K.num⟩
abbrev tupO (vs : List Value) (n : Nat) : Obj := { cls := .type "tuple", data := .seq vs.toArray n }
theorem tup_led {prog : Program} {w : World} {A : Around} {E : Value → Shared → Prop} {s : Shared} {h₀ : Heap} {L l : Addr} {news : List (Addr × Obj)} {vs : List Value} {n : Nat} {k : Int} {u : Tok} {v : Value} {value slice : Expr} {Q : Value → Shared → Prop}
    (N : News h₀ L s.heap news) (hm : (l, tupO vs n) ∈ news) (h0 : 0 ≤ k) (hfit : k < 2 ^ 63) (hx : vs[k.toNat]? = some v) (h : Q v s)
    (hs : subscripted slice false (.ref l) (.int k u) = operate [.ref l, .int k u] (getItem (.ref l) (.int k u)) := by with_unfolding_all rfl) (hg : ∀ r, letTemporaryGo value (.ref l) r = pure () := by intro _; with_unfolding_all rfl) :
    wpAny (model prog w) A (subscriptTail value slice (.ref l) (.int k u)) Q E s := by
  have hlt : k.toNat < vs.length := by
    rcases Nat.lt_or_ge k.toNat vs.length with h | h
    · exact h
    · rw [List.getElem?_eq_none h] at hx; cases hx
  exact item_tupleL (N.isTup hm) (by omega) hfit (seqIndex_of h0 (by omega)) hx h hs hg
theorem notrec_ok {w : World} {A : Around} {h₀ : Heap} {L : Addr} {m : Str → Option Value} {s : Shared} {Q E : Value → Shared → Prop} {v : Value}
    (F : Fr h₀ L s.heap m) (X : (Mine.h0.heap_1_1 w.params).In h₀) (hv : (∃ t, v = .int 7 t) ∨ v = .ref 90) (h : Q (.bool false) { s with toks := s.toks + 1 }) :
    wpAny (model PySem.Challenge.rw_pp0008_01.row.prog w) A (call (.builtin "isinstance") [v, .ref 136]) Q E s := by
  revert X
  k_fill
  intro X
  rcases hv with ⟨t, rfl⟩ | rfl
  · walk1
    exact h
  · walk1
    exact h
theorem RaisedD.drop {base h : Heap} {l : List Env} {e : Addr} {word : Str} {all news : List (Addr × Obj)} (R : RaisedD base l e word all h) (sub : ∀ q ∈ news, q ∈ all) : RaisedD base l e word news h :=
  let ⟨B, t, dx, es, n, tok, h1, h2, h3, h4, h5, h6, h7⟩ := R
  ⟨B, t, dx, es, n, tok, h1, fun q hq => h2 q (sub q hq), h3, h4, h5, h6, h7⟩
theorem any_tags {c : Nat → Int} {p : Nat} (hp : 0 ≤ c p) (hc : ∀ k, 0 ≤ c k) : ∀ {ks : List Nat}, ks.any (fun k => decide (c k < 3) && decide (c k ≠ c p)) = (ks.filter (fun k => decide (c k < 3))).any (fun k => decide ((c k).toNat ≠ (c p).toNat))
  | [] => rfl
  | k :: ks => by
    rw [List.any_cons, any_tags hp hc]
    by_cases h : c k < 3
    · rw [List.filter_cons_of_pos (by simpa using h), List.any_cons, decide_eq_true h, Bool.true_and]
      congr 1
      have := hc k
      exact decide_eq_decide.mpr (by omega)
    · rw [List.filter_cons_of_neg (by simpa using h), decide_eq_false h, Bool.false_and, Bool.false_or]
theorem dec_lt {a b : Int} (h : a < 3) (ha : 0 ≤ a) (hb : 0 ≤ b) : (decide (a < 3) && decide (a ≠ b)) = decide (a.toNat ≠ b.toNat) := by
  rw [decide_eq_true h, Bool.true_and]
  exact decide_eq_decide.mpr (by omega)
theorem dec_ge {a b : Int} (h : 3 ≤ a) : (decide (a < 3) && decide (a ≠ b)) = false := by
  rw [decide_eq_false (by omega), Bool.false_and]
/-- what the line left: the operations of the types, the names of the frames, the things -/
structure LineOf (prog : Program) (wo : World) (σ : Shape) (news : List (Addr × Obj)) (es : Nat → List DictEntry) (nin nout : Addr) (oin oout : Obj) (kin kout : List (Str × Value)) (th : Nat → Nat → Addr) : Prop where
  op : ∀ k, k < 3 → ∃ O oo ops, getL (Str.ofString "operations") (es k) = some (some (.ref O)) ∧ (O, oo) ∈ news ∧ oo.IsDictOf (PySem.strKind prog wo) ops ∧ (O == sysModules) = false ∧
    ∀ w, w < 3 → ∃ t, valueAt ops (wn w) = (near σ.p2 σ.lay w k).map fun x => Value.str (nm x w) t
  hin : (nin, oin) ∈ news
  hoin : oin.IsDictOf (PySem.strKind prog wo) kin
  loin : (nin == sysModules) = false
  hout : (nout, oout) ∈ news
  hoout : oout.IsDictOf (PySem.strKind prog wo) kout
  loout : (nout == sysModules) = false
  vin : ∀ x w, x < 3 → w < 3 → (σ.lay x w).isSome = true → valueAt kin (nm x w) = if σ.lay x w = some 1 then some (.ref (th x w)) else none
  vout : ∀ x w, x < 3 → w < 3 → (σ.lay x w).isSome = true → valueAt kout (nm x w) = if σ.lay x w = some 0 ∨ σ.lay x w = some 1 then none else some (.ref (th x w))
  thing : ∀ x w k, x < 3 → w < 3 → σ.lay x w = some k → 0 < k → ∃ dt et nt sb ds eb ns ct nc t, (th x w, instObj 157 dt) ∈ news ∧ (dt, dictOf et nt) ∈ news ∧ getL (Str.ofString "sub") et = some (some (.ref sb)) ∧
    (sb, instObj 190 ds) ∈ news ∧ (ds, dictOf eb ns) ∈ news ∧ getL (Str.ofString "name") eb = some (some (.str (nm x w) t)) ∧ getL (Str.ofString "control") eb = some (some (.ref ct)) ∧ (ct, W.listOf (plv w).toArray nc) ∈ news
/-- what the frames are -/
structure RunOf (news : List (Addr × Obj)) (run inn out nin nout : Addr) : Prop where
  run : ∃ dr esr nr tl task dt est nt, (run, instObj 232 dr) ∈ news ∧ (dr, dictOf esr nr) ∈ news ∧ getL (Str.ofString "line") esr = some (some (.int 0 tl)) ∧ getL (Str.ofString "task") esr = some (some (.ref task)) ∧
    (task, instObj 275 dt) ∈ news ∧ (dt, dictOf est nt) ∈ news ∧ getL (Str.ofString "frame") est = some (some (.ref inn))
  inn : ∃ di esi ni, (inn, instObj 211 di) ∈ news ∧ (di, dictOf esi ni) ∈ news ∧ getL (Str.ofString "names") esi = some (some (.ref nin)) ∧ getL (Str.ofString "parent") esi = some (some (.ref out))
  out : ∃ di esi ni, (out, instObj 211 di) ∈ news ∧ (di, dictOf esi ni) ∈ news ∧ getL (Str.ofString "names") esi = some (some (.ref nout)) ∧ getL (Str.ofString "parent") esi = some (some .none)
/-- a value of the law's: a record of a type of the line, or not a record -/
def ValIs (news : List (Addr × Obj)) (T : Nat → Addr) (c : Int) (v : Value) : Prop :=
  (c < 3 ∧ ∃ V DV es n, v = .ref V ∧ (V, instObj 136 DV) ∈ news ∧ (DV, dictOf es n) ∈ news ∧ getL (Str.ofString "type") es = some (some (.ref (T c.toNat)))) ∨
  (3 ≤ c ∧ ((∃ t, v = .int 7 t) ∨ v = .ref 90))
local macro_rules | `(tactic| cell_enter) => `(tactic| (refine' code_defC (by k_asm) (by k_asm) (by k_asm) (by k_asm) (by k_asm) (by exact rfl) (by exact rfl) (by assumption) (by k_is) (by k_is) (by ktr_room) (by exact BindsTo.of_eq rfl) (by exact rfl) (by decide +kernel) ?_ (by exact rfl) (by exact rfl) (by exact rfl); k_whole; intro _ _ _ _ _ _ _ N' Y' B' _ _ _; k_cells Y'; (try simp only [List.cons_append, List.nil_append] at N'); (try dsimp only); (try k_lift B'); (try k_fold)))
local macro_rules | `(tactic| k_room) => `(tactic| ktr_room)
local macro_rules | `(tactic| k_all) => `(tactic| first | assumption | exact all_ne (by assumption) (by omega))
local macro_rules | `(tactic| k_mem) => `(tactic| first | with_reducible exact memH | (with_reducible refine' memT ?_; k_mem) | with_reducible assumption)
local macro_rules | `(tactic| k_get) => `(tactic| assumption)
local macro_rules | `(tactic| walk_at "call ref") => `(tactic| (k_here; (with_reducible show wpAny _ _ (call (Value.ref 58) _) _ _ _); k_dflt (refine' ada_ok (by k_asm) (by k_asm) (by k_asm) (by k_asm) (by first | rfl | assumption) (by ktr_room) (by ktr_units) (by k_asm) ?_; intro _ _ _ _ _ _ _ _ _ _ _ _ _)))
local macro_rules | `(tactic| walk_at "leaving ref") => `(tactic| (k_here; k_dflt (refine' leave_onD ?B ?F ?R ?sm ?_ rfl; (case B => k_asm); (case R => assumption); (case sm => assumption); (case F => assumption))))
local macro_rules | `(tactic| walk_at "call ref") => `(tactic| (k_here; (with_reducible show wpAny _ _ (call (Value.ref 168) _) _ _ _); first
  | (k_dflt (refine' named_hit (by k_asm) (by k_asm) (by k_asm) (by k_asm) (by first | rfl | assumption) (by ktr_room) (by ktr_units) (by k_asm) (hdr := (by k_mem)) (hrun := (by k_mem)) (hline := (by assumption)) (hinn := (by k_mem)) (hdi := (by k_mem)) (hnames := (by assumption)) (hpar := (by assumption)) (hout := (by k_mem)) (hdo := (by k_mem)) (hnames' := (by assumption)) (hpar' := (by assumption)) (hnin := (by k_mem)) (hoin := (by assumption)) (hlin := (by assumption)) (hnout := (by k_mem)) (hoout := (by assumption)) (hlout := (by assumption)) (hit := (by assumption)) ?_; intro _ _ _ _))
  | (k_dflt (refine' named_no (by k_asm) (by k_asm) (by k_asm) (by k_asm) (by first | rfl | assumption) (by ktr_room) (by ktr_units) (by k_asm) (hdr := (by k_mem)) (hrun := (by k_mem)) (hline := (by assumption)) (hinn := (by k_mem)) (hdi := (by k_mem)) (hnames := (by assumption)) (hpar := (by assumption)) (hout := (by k_mem)) (hdo := (by k_mem)) (hnames' := (by assumption)) (hpar' := (by assumption)) (hnin := (by k_mem)) (hoin := (by assumption)) (hlin := (by assumption)) (hnout := (by k_mem)) (hoout := (by assumption)) (hlout := (by assumption)) (hi := (by assumption)) (ho := (by assumption)) ?_; intro _ _ _ _ _ _ _))))
local macro_rules | `(tactic| walk_at "subscriptTail") => `(tactic| (k_here; (with_reducible show wpAny _ _ (subscriptTail _ _ (Value.ref _) (Value.str _ _)) _ _ _); k_dflt (refine' kda_item (knd := PySem.strKind _ _) (by k_asm) (by k_mem) (by assumption) (strKind_is _ _ _ _) (by assumption) ?_)))
local macro_rules | `(tactic| walk_at "exec Assign cons ListComp") => `(tactic| (k_here; k_dflt (refine LCg.Assign_ListComp_U (F₀ := by k_asm) (by rfl) (by with_unfolding_all rfl) (by with_unfolding_all rfl) (by decide) (by rfl) (by decide) (by rfl) (by rfl) (by rfl) ?_)))
local macro_rules | `(tactic| walk_at "CompSrc") => `(tactic| (k_here; k_dflt (refine LCg.CompSrc.ledger (by rfl) (by k_asm) (by k_asm) (by k_mem) plv_size ?_; intro _)))
local macro_rules | `(tactic| walk_at "eval ListComp") => `(tactic| (k_here; k_dflt (refine LCt.ListComp_T (F₀ := by k_asm) (by with_unfolding_all rfl) (by decide) (by rfl) (by decide) (by rfl) ?_)))
local macro_rules | `(tactic| walk_at "CompSrcT") => `(tactic| (k_here; k_dflt (refine LCt.CompSrcT.ledger (by rfl) (by k_asm) (by k_asm) (by k_mem) (plm_size (by assumption)) ?_; intro _)))
local macro_rules | `(tactic| walk_at "CompRest") => `(tactic| (k_here; refine halt ?_))
local macro_rules | `(tactic| walk_at "CompRestT") => `(tactic| (k_here; refine halt ?_))
local macro_rules | `(tactic| walk_at "call builtin:isinstance") => `(tactic| (k_here; k_dflt (refine' notrec_ok (by k_asm) (by k_asm) (by assumption) ?_)))
local macro_rules | `(tactic| walk_at "call ref") => `(tactic| (k_here; (with_reducible show wpAny _ _ (call (Value.ref 67) _) _ _ _); (k_dflt (refine' common_ok (rest := $(Lean.mkIdent `rest9)) (by k_asm) (by k_asm) (by k_asm) (by k_asm) (by first | rfl | assumption) (by ktr_room) (by ktr_units) (by k_asm) (K := (by exact Kinds.mono (by assumption) (by intro _ hp; repeat (first | exact hp | refine List.Mem.tail _ ?_)))) (hl := (by k_mem)) (hr := (by exact Nat.le_of_ble_eq_true rfl)) (hq := (by assumption)) (hrq := (by assumption)) ?_ ?_))))
local macro_rules | `(tactic| walk_at "compareOp NotIn str ref") => `(tactic| (k_here; k_dflt (refine' kdg_notin (knd := PySem.strKind _ _) (by k_asm) (by k_mem) (by assumption) (by assumption) (strKind_is _ _ _ _) _ (by assumption) ?_)))
local macro_rules | `(tactic| walk_at "subscriptTail") => `(tactic| (k_here; (with_reducible show wpAny _ _ (subscriptTail _ _ (Value.ref _) (Value.int _ _)) _ _ _); first
  | (k_dflt (refine' item_led (by k_asm) (by k_mem) (by omega) (by omega) (by first | assumption | rfl) ?_; k_whole))
  | (k_dflt (refine' tup_led (by k_asm) (by k_mem) (by decide) (by decide) (by first | assumption | rfl) ?_; k_whole))))
set_option maxHeartbeats 8000000 in
theorem tagged_ok {w : World} {mean : ExcName → Option Value} {mg mb : Str → Option Value} {dp un : Nat} {gd : Option (List Code)} {cn : Str} {cs : Scope} {a : Addr} {ccd : Value} {cl : List (Str × Addr)} {outer : List Env} {A₀ : Around} {base h₀ : Heap} {L : Addr} {m : Str → Option Value} {s : Shared} {Q E : Value → Shared → Prop}
    {news : List (Addr × Obj)} {run inn out nin nout al : Addr} {oin oout : Obj} {kin kout : List (Str × Value)} {T D : Nat → Addr} {es : Nat → List DictEntry} {nT : Nat → Nat} {tT : Nat → Tok} {th : Nat → Nat → Addr} {σ : Shape} {wd p : Nat} {c : Nat → Int} {nl : Nat} {t1 t2 : Tok} {ta : Nat → Addr} {na : Nat → Nat} {vv : Nat → Value}
    (B : Below A₀ base outer h₀) (F : Fr h₀ L s.heap m) (X : (Mine.h0.heap_1_1 w.params).In h₀) (T9 : Top Mine.h0.view_1_2 (looseW Mine.h0.view_1_2 [Str.ofString "UNSET", Str.ofString "Limits", Str.ofString "_law_places"]) mean mg mb h₀) (hk : cs.kind = .function) (hd : dp + 20 < recursionLimit) (hu : un + 400 < cLine)
    (N : News h₀ L s.heap news) (K : Kinds news T D es nT tT) (KL : LineOf PySem.Challenge.rw_pp0008_01.row.prog w σ news es nin nout oin oout kin kout th) (KR : RunOf news run inn out nin nout)
    (hw : wd < 3) (hp2 : σ.p2 < 2) (hc : ∀ k, 0 ≤ c k) (hp : (p : Int) ∈ places wd)
    (hal : (al, W.listOf [Value.ref (ta 0), Value.ref (ta 1), Value.ref (ta 2)].toArray nl) ∈ news) (hta : ∀ k, k < 3 → (ta k, tupO [vv k, .none, .none] (na k)) ∈ news) (hv : ∀ k, k < 3 → ValIs news T (c k) (vv k))
    (ret : ∀ (x : Nat) (h' : Heap) (tk' : Nat) (k : Nat), x < 3 → σ.lay x wd = some k → 0 < k → res σ wd c p = nm x wd → Fr h₀ L h' m → News h₀ L h' news → Q (.ref (th x wd)) { s with heap := h', toks := tk' })
    (exc : ∀ (e : Addr) (h' : Heap) (tk' : Nat) (g₂ : Heap), RaisedD base (envX cn cs L a ccd cl :: outer) e (res σ wd c p) news h' → Fr h₀ L g₂ m → g₂.UpToSlots h' → E (.ref e) { s with heap := h', toks := tk' }) :
    wpAny (model PySem.Challenge.rw_pp0008_01.row.prog w) (ktrTop dp un gd cn cs L a ccd cl outer) (call (.ref 173) [.ref run, .ref al, .str (wn wd) t1, .int (p : Nat) t2]) Q E s := by
  have hp3 : p < 3 := place_lt hw hp
  have hit : [Value.ref (ta 0), Value.ref (ta 1), Value.ref (ta 2)][((p : Nat) : Int).toNat]? = some (.ref (ta p)) := three_get (f := fun i => Value.ref (ta i)) hp3
  have htp := hta p hp3
  have hvp := hv p hp3
  obtain ⟨dr, esr, nr, tl, task, dt, est, nt, r1, r2, r3, r4, r5, r6, r7⟩ := KR.run
  obtain ⟨di, esi, ni, i1, i2, i3, i4⟩ := KR.inn
  obtain ⟨do_, eso, no, o1, o2, o3, o4⟩ := KR.out
  have k1 := KL.hin
  have k2 := KL.hoin
  have k3 := KL.loin
  have k4 := KL.hout
  have k5 := KL.hoout
  have k6 := KL.loout
  rcases hvp with ⟨hc3, V, DV, esv, nv, hvV, v1, v2, v3⟩ | ⟨hc3, ⟨t, hv7⟩ | hvu⟩
  · rw [hvV] at htp
    have hq3 : (c p).toNat < 3 := by have := hc p; omega
    have a1 := K.ty _ hq3
    have a2 := K.di _ hq3
    obtain ⟨O, oo, ops, q1, q2, q3, q4, q5⟩ := KL.op _ hq3
    obtain ⟨tn, q6⟩ := q5 wd hw
    have hnO : nearO σ.p2 σ.lay wd (tagO (c p)) = near σ.p2 σ.lay wd (c p).toNat := by unfold tagO; rw [if_pos hc3]; rfl
    rcases hnr : near σ.p2 σ.lay wd (c p).toNat with _ | x
    · have hb : (valueAt ops (wn wd)).isSome = false := by rw [q6, hnr]; rfl
      have hres : res σ wd c p = Str.ofString "constraint_error" := res_none (hnO.trans hnr)
      revert X
      k_fill
      intro X
      refine wpAny_call ?_
      k_dflt cell_enter
      k_steps
      refine' exc _ _ _ _ (hres ▸ ?cR) ?cF ?cU
      case cR => assumption
      case cU => assumption
      case cF => assumption
    · have hb : (valueAt ops (wn wd)).isSome = true := by rw [q6, hnr]; rfl
      have q7 : valueAt ops (wn wd) = some (.str (nm x wd) tn) := by rw [q6, hnr]; rfl
      obtain ⟨hx3, hls⟩ := near_lt hnr
      obtain ⟨kk, hkk⟩ := Option.isSome_iff_exists.mp hls
      have w1 := KL.vin x wd hx3 hw hls
      have w2 := KL.vout x wd hx3 hw hls
      rcases Nat.eq_zero_or_pos kk with hk0 | hk0
      · subst hk0
        have hres : res σ wd c p = Str.ofString "program_error" := res_zero (hnO.trans hnr) hkk
        have w3 : valueAt kin (nm x wd) = none := by rw [w1, if_neg (by rw [hkk]; decide)]
        have w4 : valueAt kout (nm x wd) = none := by rw [w2, if_pos (.inl hkk)]
        clear w1 w2
        revert X
        k_fill
        intro X
        refine wpAny_call ?_
        k_dflt cell_enter
        k_steps
        (with_reducible rename RaisedD _ _ _ _ _ _ => kR9)
        refine' exc _ _ _ _ (hres ▸ kR9.drop (by intro p hp; repeat (first | exact hp | refine List.Mem.tail _ ?_))) ?cF ?cU
        case cU => assumption
        case cF => assumption
      · have hres := res_pos (hnO.trans hnr) hkk hk0
        have hit9 : (valueAt kin (nm x wd) = some (.ref (th x wd)) ∧ valueAt kout (nm x wd) = none) ∨ (valueAt kin (nm x wd) = none ∧ valueAt kout (nm x wd) = some (.ref (th x wd))) := by
          by_cases h1 : kk = 1
          · subst h1; exact .inl ⟨by rw [w1, if_pos hkk], by rw [w2, if_pos (.inr hkk)]⟩
          · exact .inr ⟨by rw [w1, if_neg (by rw [hkk]; intro e; cases e; exact h1 rfl)], by rw [w2, if_neg (by rw [hkk]; rintro (e | e) <;> cases e; exact absurd hk0 (by decide); exact h1 rfl)]⟩
        clear w1 w2
        obtain ⟨dt', et', nt', sb, ds, eb, ns, ct, nc, ts, y1, y2, y3, y4, y5, y6, y7, y8⟩ := KL.thing x wd kk hx3 hw hkk hk0
        clear hnr q6 hls
        revert X
        k_fill
        intro X
        refine wpAny_call ?_
        k_dflt cell_enter
        repeat ((fail_if_success (with_reducible show wpAny _ _ (exec (Stmt.Assign _ (Expr.ListComp _ _ _ _) _) _) _ _ _)); (first | (k_unfold; (try dsimp only)) | (k_end; wrow_close) | walk1 | (dsimp only; walk1) | (leave1; walk_say "STEP leave1"; try dsimp only) | fail "no step"))
        k_steps
        unfold Halt
        refine restC_ind vv ?_ (plv_nums hw) (plk_lt hw) (fun j v hj => by rw [Nat.zero_add] at hj; simpa using hj) ?_
        · intro k t ys r1 I oI C oC D m₂ h tk E' hk3 hC hx F9 N9 off ne g1
          (with_reducible rename Fr _ _ _ _ => kF9); (with_reducible rename News _ _ _ _ => kN9)
          have htk := hta k hk3
          have hik : [Value.ref (ta 0), Value.ref (ta 1), Value.ref (ta 2)][((k : Nat) : Int).toNat]? = some (.ref (ta k)) := three_get (f := fun i => Value.ref (ta i)) hk3
          k_steps
          (with_reducible rename Fr _ _ _ _ => kF9); (with_reducible rename News _ _ _ _ => kN9)
          exact LCg.CompEnd.intro kF9 kN9 _ (by intro p hp; repeat (first | exact hp | refine List.Mem.tail _ ?_)) off (.inr ⟨_, (by k_mem), rfl, _, rfl⟩) g1
        · rw [List.nil_append]
          unfold LCg.FinA
          intro D9 h9 tk9 F9 N9 off9
          k_steps
          unfold Halt
          refine restV_ind (fun k => decide (c k < 3)) vv (fun k => .ref (T (c k).toNat)) ?_ (ks := plk wd) (by simp) (plk_lt hw) (fun j v hj => by rw [Nat.zero_add] at hj; simpa using hj) ?_
          · intro k ys r1 r2 I oI C oC D m₂ h tk E' hk3 hC hx F9 N9 off ne g1 g2
            (with_reducible rename Fr _ _ _ _ => kF9); (with_reducible rename News _ _ _ _ => kN9)
            rcases hv k hk3 with ⟨hck, V1, DV1, esv1, nv1, hvV1, v11, v12, v13⟩ | ⟨hck, hn1⟩
            · have g3 := g1 (decide_eq_true hck)
              rw [hvV1] at hx
              k_steps
              (with_reducible rename Fr _ _ _ _ => kF9); (with_reducible rename News _ _ _ _ => kN9)
              exact LCg.CompEnd.intro kF9 kN9 _ (by intro p hp; repeat (first | exact hp | refine List.Mem.tail _ ?_)) off (.inr ⟨_, (by k_mem), rfl, _, rfl⟩) g3
            · have g3 := g2 (decide_eq_false (by omega))
              k_steps
              (with_reducible rename Fr _ _ _ _ => kF9); (with_reducible rename News _ _ _ _ => kN9)
              exact LCg.CompEnd.intro kF9 kN9 _ (by intro p hp; repeat (first | exact hp | refine List.Mem.tail _ ?_)) off (.inr ⟨_, (by k_mem), rfl, _, rfl⟩) g3
          · rw [List.nil_append]
            have hflt : ∀ k ∈ (plk wd).filter (fun k => decide (c k < 3)), (c k).toNat < 3 := fun k hk => by
              have h1 := of_decide_eq_true (List.mem_filter.mp hk).2
              have h2 := hc k
              omega
            have hfl := Nat.le_trans (List.length_filter_le (fun k => decide (c k < 3)) (plk wd)) (plk_len hw)
            have hresA : res σ wd c p = if ((plk wd).filter (fun k => decide (c k < 3))).any (fun k => decide ((c k).toNat ≠ (c p).toNat)) then Str.ofString "constraint_error" else nm x wd := by
              rw [hres, plk_any hw (f := fun k => decide (c k < 3) && decide (c k ≠ c p)), any_tags (hc p) hc]
            unfold LCg.FinE
            intro D8 h8 tk8 F8 N8 off8
            rcases hf : (plk wd).filter (fun k => decide (c k < 3)) with _ | ⟨ka, _ | ⟨kb, _ | ⟨kc, kr⟩⟩⟩
            · rw [hf] at N8 hresA hflt
              simp only [List.map_nil] at N8
              let rest9 : List Nat := []
              have hr9 : ∀ k ∈ rest9, k < 3 := by intro k hk; simp only [rest9, List.not_mem_nil] at hk
              have hres2 : res σ wd c p = if rest9.any (fun k => decide (k ≠ (c p).toNat)) then Str.ofString "constraint_error" else nm x wd := hresA
              k_steps
              · (with_reducible rename List.any _ _ = _ => hany9)
                have hres3 : res σ wd c p = nm x wd := by rw [hres2, if_neg (by simp only [hany9, Bool.false_eq_true, not_false_eq_true])]
                (with_reducible rename Fr _ _ _ _ => kF9); (with_reducible rename News _ _ _ _ => kN9)
                exact ret x _ _ kk hx3 hkk hk0 hres3 kF9 (cb_drop kN9 (by intro p hp; repeat (first | exact hp | refine List.Mem.tail _ ?_)))
              · (with_reducible rename List.any _ _ = _ => hany9)
                have hres3 : res σ wd c p = Str.ofString "constraint_error" := by rw [hres2, if_pos hany9]
                (with_reducible rename RaisedD _ _ _ _ _ _ => kR9)
                refine' exc _ _ _ _ (hres3 ▸ kR9.drop (by intro p hp; repeat (first | exact hp | refine List.Mem.tail _ ?_))) ?cF ?cU
                case cU => assumption
                case cF => assumption
            · rw [hf] at N8 hresA hflt
              simp only [List.map_cons, List.map_nil] at N8
              let rest9 : List Nat := [(c ka).toNat]
              have hr9 : ∀ k ∈ rest9, k < 3 := by
                intro k hk
                rcases List.mem_cons.mp hk with rfl | hk
                · exact hflt _ (.head _)
                · cases hk
              have hres2 : res σ wd c p = if rest9.any (fun k => decide (k ≠ (c p).toNat)) then Str.ofString "constraint_error" else nm x wd := hresA
              k_steps
              · (with_reducible rename List.any _ _ = _ => hany9)
                have hres3 : res σ wd c p = nm x wd := by rw [hres2, if_neg (by simp only [hany9, Bool.false_eq_true, not_false_eq_true])]
                (with_reducible rename Fr _ _ _ _ => kF9); (with_reducible rename News _ _ _ _ => kN9)
                exact ret x _ _ kk hx3 hkk hk0 hres3 kF9 (cb_drop kN9 (by intro p hp; repeat (first | exact hp | refine List.Mem.tail _ ?_)))
              · (with_reducible rename List.any _ _ = _ => hany9)
                have hres3 : res σ wd c p = Str.ofString "constraint_error" := by rw [hres2, if_pos hany9]
                (with_reducible rename RaisedD _ _ _ _ _ _ => kR9)
                refine' exc _ _ _ _ (hres3 ▸ kR9.drop (by intro p hp; repeat (first | exact hp | refine List.Mem.tail _ ?_))) ?cF ?cU
                case cU => assumption
                case cF => assumption
            · rw [hf] at N8 hresA hflt
              simp only [List.map_cons, List.map_nil] at N8
              let rest9 : List Nat := [(c ka).toNat, (c kb).toNat]
              have hr9 : ∀ k ∈ rest9, k < 3 := by
                intro k hk
                rcases List.mem_cons.mp hk with rfl | hk
                · exact hflt _ (.head _)
                · rcases List.mem_cons.mp hk with rfl | hk
                  · exact hflt _ (.tail _ (.head _))
                  · cases hk
              have hres2 : res σ wd c p = if rest9.any (fun k => decide (k ≠ (c p).toNat)) then Str.ofString "constraint_error" else nm x wd := hresA
              k_steps
              · (with_reducible rename List.any _ _ = _ => hany9)
                have hres3 : res σ wd c p = nm x wd := by rw [hres2, if_neg (by simp only [hany9, Bool.false_eq_true, not_false_eq_true])]
                (with_reducible rename Fr _ _ _ _ => kF9); (with_reducible rename News _ _ _ _ => kN9)
                exact ret x _ _ kk hx3 hkk hk0 hres3 kF9 (cb_drop kN9 (by intro p hp; repeat (first | exact hp | refine List.Mem.tail _ ?_)))
              · (with_reducible rename List.any _ _ = _ => hany9)
                have hres3 : res σ wd c p = Str.ofString "constraint_error" := by rw [hres2, if_pos hany9]
                (with_reducible rename RaisedD _ _ _ _ _ _ => kR9)
                refine' exc _ _ _ _ (hres3 ▸ kR9.drop (by intro p hp; repeat (first | exact hp | refine List.Mem.tail _ ?_))) ?cF ?cU
                case cU => assumption
                case cF => assumption
            · exfalso
              rw [hf] at hfl
              simp only [List.length_cons] at hfl
              omega
  · rw [hv7] at htp
    have hres : res σ wd c p = Str.ofString "constraint_error" := by unfold res; rw [if_pos hc3]
    revert X
    k_fill
    intro X
    refine wpAny_call ?_
    k_dflt cell_enter
    k_steps
    refine' exc _ _ _ _ (hres ▸ ?cR) ?cF ?cU
    case cR => assumption
    case cU => assumption
    case cF => assumption
  · rw [hvu] at htp
    have hres : res σ wd c p = Str.ofString "constraint_error" := by unfold res; rw [if_pos hc3]
    revert X
    k_fill
    intro X
    refine wpAny_call ?_
    k_dflt cell_enter
    k_steps
    refine' exc _ _ _ _ (hres ▸ ?cR) ?cF ?cU
    case cR => assumption
    case cU => assumption
    case cF => assumption
end Mine
end
section
open PySem PySem.W PyProof.Rows PySem.Calls PySem.Spec
namespace Mine
/-- the end of a turn, by an invariant -/
def TurnJ (h₀ : Heap) (L I : Addr) (oI : Obj) (Jn : (Str → Option Value) → List (Addr × Obj) → Prop) (s₁ : Shared) (Q : Flow → Shared → Prop) (f : Flow) (s₂ : Shared) : Prop :=
  match f with
  | .ret v => Q (.ret v) s₂
  | .brk => Q .next s₂
  | _ => ∃ h' tk m' nx, s₂ = { s₁ with heap := h', toks := tk } ∧ Fr h₀ L h' m' ∧ News h₀ L h' ((I, oI) :: nx) ∧ (∀ p ∈ nx, p.1 ≠ I) ∧ Jn m' nx
section
variable {prog : Program} {w : World} {A : Around} {E : Value → Shared → Prop} {s : Shared} {env : Env} {h₀ : Heap} {x : Str} {body : List Stmt} {Q : Flow → Shared → Prop}
theorem loop_J {I : Addr} {fp : List Addr} {n : Nat} {P : Nat → Value → Prop} {St : Nat → Heap → Prop} {m₀ : Str → Option Value} {news : List (Addr × Obj)} (J : Nat → (Str → Option Value) → List (Addr × Obj) → Prop)
    (W : Walks prog w A I fp [I] n P St) (hIf : I ∈ fp) (hfp : ∀ b ∈ fp, b ≠ I → ∃ o, h₀.get? b = some o) (hLf : env.locals ∉ fp) (hI₀ : h₀.get? I = none) (hnw : ∀ p ∈ news, p.1 < I) (hSt : ∀ i h, St i h → ∃ o, h.get? I = some o) (hst : St 0 s.heap) (F : Fr h₀ env.locals s.heap m₀) (N : News h₀ env.locals s.heap news) (hj : J 0 m₀ news)
    (turn : ∀ i v m₁ nx h tk oI, i < n → P i v → J i m₁ nx → (∀ p ∈ nx, p.1 ≠ I) → Fr h₀ env.locals h (fun y => if y = x then some v else m₁ y) → News h₀ env.locals h ((I, oI) :: nx) →
      wpAny (model prog w) A (execs body env) (TurnJ h₀ env.locals I oI (J (i + 1)) { s with heap := h, toks := tk } Q) E { s with heap := h, toks := tk })
    (done : ∀ m₁ nx h tk, J n m₁ nx → Fr h₀ env.locals h m₁ → News h₀ env.locals h nx → Q .next { s with heap := h, toks := tk }) :
    LoopAtV prog w A h₀ env x body Q E (.ref I) s := by
  refine ⟨I, fp, [I], n, P, St, m₀, news, J, rfl, W, hLf, ?_, ?_, hst, F, N, hj, ?_, ?_⟩
  · intro b hb
    rw [List.mem_singleton.mp hb]
    exact hI₀
  · intro p hp hI
    exact absurd (hnw p hp) ((List.mem_singleton.mp hI) ▸ Nat.lt_irrefl _)
  · rintro i v m₁ news₁ s₁ own ⟨hh', tk', rfl⟩ hin hP hJ hoff h5 _ h7 hs F₁ N₁
    obtain ⟨oI, hoI⟩ := hSt _ _ hs
    have own1 : ∀ p ∈ own, p = (I, oI) := fun p hp => by
      have a := N₁ p (List.mem_append.mpr (.inl hp))
      have b : p.1 = I := by
        rcases Decidable.em (p.1 = I) with q | q
        · exact q
        · obtain ⟨o, ho⟩ := hfp p.1 (h5 p hp) q
          rw [a.2.2] at ho
          cases ho
      have c := a.1
      rw [b] at c
      exact Prod.ext b (Option.some.inj (c.symm.trans hoI))
    have NI : News h₀ env.locals hh' ((I, oI) :: news₁) := fun p hp => by
      rcases List.mem_cons.mp hp with rfl | hp
      · exact N₁ _ (List.mem_append.mpr (.inl (h7 I hIf hI₀ oI hoI)))
      · exact N₁ p (List.mem_append.mpr (.inr hp))
    have hoff' : ∀ p ∈ news₁, p.1 ≠ I := fun p hp e => hoff p hp (List.mem_singleton.mpr e)
    refine wpAny_mono (turn i v m₁ news₁ hh' tk' oI hin hP hJ hoff' F₁ NI) (fun f s₂ p => ?_) fun _ _ e => e
    have fin : (∃ h' tk m' nx, s₂ = { s with heap := h', toks := tk } ∧ Fr h₀ env.locals h' m' ∧ News h₀ env.locals h' ((I, oI) :: nx) ∧ (∀ p ∈ nx, p.1 ≠ I) ∧ J (i + 1) m' nx) → LoopStepU h₀ env.locals [I] own (J (i + 1)) { s with heap := hh', toks := tk' } .next s₂ := by
      rintro ⟨h', tk, m', nx, e, F', N', hn, hm⟩
      refine ⟨rfl, h', tk, m', nx, e, F', fun p hp => ?_, fun p hp hI => hn p hp (List.mem_singleton.mp hI), hm⟩
      rcases List.mem_append.mp hp with hp | hp
      · obtain rfl := own1 p hp
        exact N' _ List.mem_cons_self
      · exact N' p (List.mem_cons_of_mem _ hp)
    cases f with
    | ret v => exact .ret p
    | brk => exact .brk p
    | next => exact .next (fin p)
    | cont => exact .cont (fin p)
  · rintro h' tk m' news' F' N' _ hJ
    exact done m' news' h' tk hJ F' N'
theorem range_J {r : Addr} {a₀ b₀ : Int} {t₀ u₀ v₀ : Tok} {n : Nat} {m₀ : Str → Option Value} {news : List (Addr × Obj)} (J : Nat → (Str → Option Value) → List (Addr × Obj) → Prop)
    (hh : A.handled = none) (hr : IsRange s.heap r a₀ b₀ 1 t₀ u₀ v₀) (hsmall : Builtin.Range.small a₀ b₀ 1 = true) (hn : Builtin.Range.rangeSize a₀ b₀ 1 = (n : Int)) (F : Fr h₀ env.locals s.heap m₀) (N : News h₀ env.locals s.heap news) (hj : J 0 m₀ news)
    (turn : ∀ I i t m₁ nx h tk oI, i < n → J i m₁ nx → (∀ p ∈ nx, p.1 ≠ I) → Fr h₀ env.locals h (fun y => if y = x then some (.int (a₀ + (i : Nat)) t) else m₁ y) → News h₀ env.locals h ((I, oI) :: nx) →
      wpAny (model prog w) A (execs body env) (TurnJ h₀ env.locals I oI (J (i + 1)) { s with heap := h, toks := tk } Q) E { s with heap := h, toks := tk })
    (done : ∀ m₁ nx h tk, J n m₁ nx → Fr h₀ env.locals h m₁ → News h₀ env.locals h nx → Q .next { s with heap := h, toks := tk }) :
    wpAny (model prog w) A (pyIter (.ref r)) (fun it s₂ => LoopAtV prog w A h₀ env x body Q E it s₂) E s := by
  refine wpAny_pyIter_range hr hsmall ?_
  have W : Walks prog w A s.heap.objs.size [s.heap.objs.size] [s.heap.objs.size] n (fun i v => i < n ∧ ∃ t, v = .int (a₀ + i * 1) t)
      (fun i h => IsRangeIter h s.heap.objs.size (a₀ + (i : Nat) * 1) ((n : Int) - (i : Nat)) 1) := (Walks.range hh _ a₀ 1 n).bound
  refine loop_J J W (List.mem_singleton.mpr rfl) (fun b hb q => absurd (List.mem_singleton.mp hb) q) ?_ (next_is_new F) (fun p hp => Heap.lt_size (N p hp).1) (fun i h st => ⟨_, st⟩) (by show IsRangeIter _ _ _ _ _; rw [hn]; simpa using Heap.get?_push_size _ rfl) (F.push _) (fun p hp => ⟨Heap.get?_push_of_some _ (N p hp).1, (N p hp).2⟩) hj ?_ ?_
  · intro hm
    exact absurd F.ns.lt ((List.mem_singleton.mp hm) ▸ Nat.lt_irrefl _)
  · rintro i v m₁ nx h tk oI hi ⟨_, t, rfl⟩ hJ hoff F₁ N₁
    rw [Int.mul_one] at F₁
    exact turn _ i t m₁ nx h tk oI hi hJ hoff F₁ N₁
  · exact done
theorem tup_J {ax : Addr} {vs : List Value} {m₀ : Str → Option Value} {news : List (Addr × Obj)} (J : Nat → (Str → Option Value) → List (Addr × Obj) → Prop)
    (hh : A.handled = none) (hl : h₀.IsTuple ax vs.toArray) (F : Fr h₀ env.locals s.heap m₀) (N : News h₀ env.locals s.heap news) (hj : J 0 m₀ news)
    (turn : ∀ I i v m₁ nx h tk oI, vs[i]? = some v → J i m₁ nx → (∀ p ∈ nx, p.1 ≠ I) → Fr h₀ env.locals h (fun y => if y = x then some v else m₁ y) → News h₀ env.locals h ((I, oI) :: nx) →
      wpAny (model prog w) A (execs body env) (TurnJ h₀ env.locals I oI (J (i + 1)) { s with heap := h, toks := tk } Q) E { s with heap := h, toks := tk })
    (done : ∀ m₁ nx h tk, J vs.length m₁ nx → Fr h₀ env.locals h m₁ → News h₀ env.locals h nx → Q .next { s with heap := h, toks := tk }) :
    wpAny (model prog w) A (pyIter (.ref ax)) (fun it s₂ => LoopAtV prog w A h₀ env x body Q E it s₂) E s := by
  obtain ⟨ol, hol, hc⟩ := id hl
  have hls : s.heap.IsTuple ax vs.toArray := ⟨ol, F.keep _ _ hol, hc⟩
  have hlt : ax < h₀.objs.size := Heap.lt_size hol
  have hne : ax ≠ s.heap.objs.size := Nat.ne_of_lt (Nat.lt_trans (Nat.lt_of_lt_of_le hlt F.above) F.ns.lt)
  refine wpAny_pyIter_tuple hls ?_
  have W := Walks.tuple (prog := prog) (w := w) hh s.heap.objs.size ax hne vs.toArray
  refine loop_J J W List.mem_cons_self (fun b hb q => ?_) ?_ (next_is_new F) (fun p hp => Heap.lt_size (N p hp).1) (fun i h st => by obtain ⟨o, e, _⟩ := st.1; exact ⟨o, e⟩) ⟨⟨_, Heap.get?_push_size _ rfl, rfl, rfl⟩, hls.at fun o e => Heap.get?_push_of_some _ e⟩ (F.push _) (fun p hp => ⟨Heap.get?_push_of_some _ (N p hp).1, (N p hp).2⟩) hj ?_ ?_
  · rcases List.mem_cons.mp hb with e | hb
    · exact absurd e q
    · rw [List.mem_singleton.mp hb]
      exact ⟨ol, hol⟩
  · intro hm
    rcases List.mem_cons.mp hm with e | hm
    · exact absurd F.ns.lt (e ▸ Nat.lt_irrefl _)
    · exact absurd (Nat.lt_of_lt_of_le hlt F.above) ((List.mem_singleton.mp hm) ▸ Nat.lt_irrefl _)
  · intro i v m₁ nx h tk oI hi hP hJ hoff F₁ N₁
    exact turn _ i v m₁ nx h tk oI (by simpa using hP) hJ hoff F₁ N₁
  · intro m₁ nx h tk hJ F₁ N₁
    exact done m₁ nx h tk (by simpa using hJ) F₁ N₁
end
end Mine
end
local macro_rules | `(tactic| k_mem) => `(tactic| first | with_reducible exact memH | (with_reducible refine' memT ?_; k_mem) | with_reducible assumption)
local macro_rules | `(tactic| k_all) => `(tactic| first | assumption | exact all_ne (by assumption) (by omega))
local macro_rules | `(tactic| k_room) => `(tactic| ktr_room)
local macro_rules | `(tactic| k_get) => `(tactic| assumption)
section
open PySem PySem.W PyProof.Rows PySem.Calls PySem.Spec
namespace Mine
theorem take_upd {w : World} {mean : ExcName → Option Value} {mg mb : Str → Option Value} {dp un : Nat} {gd : Option (List Code)} {cn : Str} {cs : Scope} {a : Addr} {ccd : Value} {cl : List (Str × Addr)} {outer : List Env} {A₀ : Around} {base h₀ : Heap} {L : Addr} {m : Str → Option Value} {s : Shared} {Q E : Value → Shared → Prop}
    {b c : Addr} {ob : Obj} {vs : List Value} {ns : List Int} {n k : Int} {t1 tk : Tok} {news : List (Addr × Obj)} {g : Obj → List (Addr × Obj)} {nc : Nat}
    (B : Below A₀ base outer h₀) (F : Fr h₀ L s.heap m) (X : (Mine.h0.heap_1_1 w.params).In h₀) (T : Top Mine.h0.view_1_2 (looseW Mine.h0.view_1_2 [Str.ofString "UNSET", Str.ofString "Limits", Str.ofString "_law_places"]) mean mg mb h₀) (hk : cs.kind = .function) (hd : dp + 1 < recursionLimit) (hu : un + 8 < cLine)
    (N : News h₀ L s.heap news) (U : UpdF b ob news g) (hc : (c, W.listOf vs.toArray nc) ∈ news)
    (hob : ob.IsDictOf (strKind PySem.Challenge.rw_pp0008_01.row.prog w) [(Str.ofString "cells", Value.ref c), (Str.ofString "at", Value.int n t1)])
    (hlo : (b == sysModules) = false)
    (hI : IntsAre vs ns) (hln : ns.length ≤ 60) (hn0 : 0 ≤ n) (hn1 : n < 1000) (hk0 : 0 < k) (hk1 : k < 1000)
    (ret : ∀ (r : Int) (t t' : Tok) (h' : Heap) (tk' : Nat) (ob' : Obj), 0 ≤ r → r < k → Fr h₀ L h' m → News h₀ L h' (g ob') →
      ob'.IsDictOf (strKind PySem.Challenge.rw_pp0008_01.row.prog w) [(Str.ofString "cells", Value.ref c), (Str.ofString "at", Value.int (n + 1) t')] → Q (.int r t) { s with heap := h', toks := tk' }) :
    wpAny (model PySem.Challenge.rw_pp0008_01.row.prog w) (ktrTop dp un gd cn cs L a ccd cl outer) (call (.ref 334) [.ref b, .int k tk]) Q E s := by
  obtain ⟨pre, post, rfl, hg, hpre, hpost⟩ := U.split
  have hbc : c ≠ b := by
    intro e
    subst e
    have h1 := (N _ hc).1
    have h2 := (N (c, ob) (List.mem_append_right _ (.head _))).1
    have e2 : W.listOf vs.toArray nc = ob := Option.some.inj (h1.symm.trans h2)
    obtain ⟨_, _, _, hd, _⟩ := hob
    rw [← e2] at hd
    cases hd
  have hS : ∀ p ∈ pre ++ post, p.1 ≠ b := fun p hp => (List.mem_append.mp hp).elim (hpre p) (hpost p)
  have N2 : News h₀ L s.heap ((b, ob) :: (c, W.listOf vs.toArray nc) :: (pre ++ post)) := fun p hp => by
    rcases List.mem_cons.mp hp with rfl | hp
    · exact N _ (List.mem_append_right _ (.head _))
    · rcases List.mem_cons.mp hp with rfl | hp
      · exact N _ hc
      · rcases List.mem_append.mp hp with hp | hp
        · exact N _ (List.mem_append_left _ hp)
        · exact N _ (List.mem_append_right _ (.tail _ hp))
  refine take_ok B F X T hk hd hu N2 hob hlo hI hln hn0 hn1 hk0 hk1 hS hbc fun r t t' h' tk' ob' hr0 hr1 F' N' hob' => ret r t t' h' tk' ob' hr0 hr1 F' ?_ hob'
  rw [hg]
  intro p hp
  rcases List.mem_append.mp hp with hp | hp
  · exact N' _ (.tail _ (.tail _ (List.mem_append_left _ hp)))
  · rcases List.mem_cons.mp hp with rfl | hp
    · exact N' _ (.head _)
    · exact N' _ (.tail _ (.tail _ (List.mem_append_right _ hp)))
theorem isStr_iff {v : Value} {a b : Str} (ha : v.isStr a = true) (hb : v.isStr b = true) : a = b := by
  cases v <;> simp_all [Value.isStr]
theorem putL_ref {name : Str} {hsh : Int} {key v : Value} : ∀ {es : List DictEntry}, es.any (·.key.isStr name) = true → (putL name hsh key v es).any (·.refKey) = es.any (·.refKey)
  | [], h => by simp at h
  | e :: r, h => by
    unfold putL
    by_cases he : e.key.isStr name = true
    · rw [if_pos he]; rfl
    · rw [if_neg he, List.any_cons, List.any_cons]
      have h' : r.any (·.key.isStr name) = true := by
        rw [List.any_cons] at h
        simpa [he] using h
      rw [putL_ref h']
theorem putL_len {name : Str} {hsh : Int} {key v : Value} : ∀ {es : List DictEntry}, es.any (·.key.isStr name) = true → (putL name hsh key v es).length = es.length
  | [], h => by simp at h
  | e :: r, h => by
    unfold putL
    by_cases he : e.key.isStr name = true
    · rw [if_pos he]; rfl
    · rw [if_neg he, List.length_cons, List.length_cons]
      have h' : r.any (·.key.isStr name) = true := by
        rw [List.any_cons] at h
        simpa [he] using h
      rw [putL_len h']
theorem any_of_getL {name : Str} {es : List DictEntry} {u : Value} (h : getL name es = some (some u)) : es.any (·.key.isStr name) = true := by
  unfold getL at h
  rcases hf : es.find? (fun x => x.key.isStr name) with _ | e
  · rw [hf] at h
    dsimp only at h
    split at h <;> cases h
  · exact List.any_eq_true.mpr ⟨e, List.mem_of_find?_eq_some hf, by simpa using List.find?_some hf⟩
theorem find_put_ne {name k : Str} {hsh : Int} {key v : Value} (hne : k ≠ name) : ∀ {es : List DictEntry}, es.any (·.key.isStr name) = true → ((putL name hsh key v es).find? (·.key.isStr k)) = es.find? (·.key.isStr k)
  | [], h => by simp at h
  | e :: r, h => by
    unfold putL
    by_cases he : e.key.isStr name = true
    · rw [if_pos he, List.find?_cons, List.find?_cons]
      have hk : e.key.isStr k = false := by
        cases hx : e.key.isStr k with
        | false => rfl
        | true => exact absurd (isStr_iff hx he) hne
      simp only [hk]
    · rw [if_neg he, List.find?_cons, List.find?_cons]
      have h' : r.any (·.key.isStr name) = true := by
        rw [List.any_cons] at h
        simpa [he] using h
      rw [find_put_ne hne h']
theorem getL_ne {name k : Str} {hsh : Int} {key v u : Value} {es : List DictEntry} (hg : getL name es = some (some u)) (hne : k ≠ name) : getL k (putL name hsh key v es) = getL k es := by
  have ha := any_of_getL hg
  unfold getL
  rw [find_put_ne hne ha, putL_ref ha]
theorem find_put_eq {name : Str} {hsh : Int} {key v : Value} : ∀ {es : List DictEntry}, es.any (·.key.isStr name) = true → ∃ e, (putL name hsh key v es).find? (·.key.isStr name) = some e ∧ e.val = v
  | [], h => by simp at h
  | e :: r, h => by
    unfold putL
    by_cases he : e.key.isStr name = true
    · rw [if_pos he, List.find?_cons]
      simp only [he]
      exact ⟨_, rfl, rfl⟩
    · rw [if_neg he, List.find?_cons]
      have h' : r.any (·.key.isStr name) = true := by
        rw [List.any_cons] at h
        simpa [he] using h
      obtain ⟨e', h1, h2⟩ := find_put_eq (hsh := hsh) (key := key) (v := v) h'
      simp only [he]
      exact ⟨e', h1, h2⟩
theorem getL_eq {name : Str} {hsh : Int} {key v u : Value} {es : List DictEntry} (hg : getL name es = some (some u)) : getL name (putL name hsh key v es) = some (some v) := by
  obtain ⟨e, h1, h2⟩ := find_put_eq (hsh := hsh) (key := key) (v := v) (any_of_getL hg)
  unfold getL
  rw [h1, ← h2]
end Mine
end
local macro_rules | `(tactic| cell_enter) => `(tactic| (refine' code_defC (by k_asm) (by k_asm) (by k_asm) (by k_asm) (by k_asm) (by exact rfl) (by exact rfl) (by assumption) (by k_is) (by k_is) (by ktr_room) (by first | exact BindsTo.of_eq rfl | exact binds_K (by k_in) rfl (by k_is) rfl rfl rfl) (by exact rfl) (by decide +kernel) ?_ (by exact rfl) (by exact rfl) (by exact rfl); k_whole; intro _ _ _ _ _ _ _ N' Y' B' _ _ _; k_cells Y'; (try simp only [List.cons_append, List.nil_append] at N'); (try dsimp only); (try k_lift B'); (try k_fold)))
local macro_rules | `(tactic| walk_at "eval Name") => `(tactic| (k_here; k_dflt (refine' nameX_L (by k_asm) (by first | rfl | assumption) ?_ (by rfl) (by rfl); k_whole)))
local macro_rules | `(tactic| walk_at "eval Name") => `(tactic| (k_here; k_dflt (refine' nameX_C (by k_asm) (by assumption) (by k_mem) (by assumption) ?_ (by rfl) (by rfl) (by decide); k_whole)))
local macro_rules | `(tactic| walk_at "call ref") => `(tactic| (k_here; (with_reducible show wpAny _ _ (call (Value.ref 334) _) _ _ _); k_dflt (refine' take_upd (by k_asm) (by k_asm) (by k_asm) (by k_asm) (by first | rfl | assumption) (by ktr_room) (by ktr_units) (by k_asm) (by k_updF) (by k_mem) (by assumption) (by assumption) (by assumption) (by assumption) (by omega) (by omega) (by first | decide | omega) (by first | decide | omega) ?_; intro _ _ _ _ _ _ _ _ _ _ _)))
section
open PySem PySem.W PyProof.Rows PySem.Calls PySem.Spec
namespace Mine
/-- a dict of fields, by its newest values -/
structure FD (es : List DictEntry) (kv : List (Str × Value)) : Prop where
  ref : es.any (·.refKey) = false
  len : es.length ≤ kv.length
  find : ∀ k, (es.find? (·.key.isStr k)).map (·.val) = kv.lookup k
theorem FD.nil : FD [] [] := ⟨rfl, Nat.le_refl _, fun _ => rfl⟩
theorem FD.get {es : List DictEntry} {kv : List (Str × Value)} (H : FD es kv) {k : Str} {o : Option Value} (h : kv.lookup k = o) : getL k es = some o := by
  have := H.find k
  unfold getL
  cases hf : es.find? (fun x => x.key.isStr k) with
  | some e => rw [hf] at this; rw [← h, ← this]; rfl
  | none => rw [hf] at this; rw [H.ref, ← h, ← this]; rfl
theorem fd_find {name : Str} {hsh : Int} {t : Tok} {v : Value} {k : Str} : ∀ {es : List DictEntry}, ((putL name hsh (.str name t) v es).find? (·.key.isStr k)).map (·.val) = if k = name then some v else (es.find? (·.key.isStr k)).map (·.val)
  | [] => by
    by_cases h : k = name
    · subst h
      simp [putL, Value.isStr]
    · have h' : (name == k) = false := by simpa using fun e : name = k => h e.symm
      simp [putL, Value.isStr, h, h']
  | e :: r => by
    unfold putL
    by_cases he : e.key.isStr name = true
    · rw [if_pos he, List.find?_cons, List.find?_cons]
      by_cases h : k = name
      · subst h
        simp [he]
      · have hk : e.key.isStr k = false := by
          cases hx : e.key.isStr k with
          | false => rfl
          | true => exact absurd (isStr_iff hx he) h
        simp [hk, h]
    · rw [if_neg he, List.find?_cons, List.find?_cons]
      by_cases hk : e.key.isStr k = true
      · have h : k ≠ name := fun q => he (q ▸ hk)
        simp [hk, h]
      · have hk' : e.key.isStr k = false := by simpa using hk
        simp only [hk']
        exact fd_find
theorem fd_ref {name : Str} {hsh : Int} {t : Tok} {v : Value} : ∀ {es : List DictEntry}, (putL name hsh (.str name t) v es).any (·.refKey) = es.any (·.refKey)
  | [] => rfl
  | e :: r => by
    unfold putL
    by_cases he : e.key.isStr name = true
    · rw [if_pos he]; rfl
    · rw [if_neg he, List.any_cons, List.any_cons, fd_ref]
theorem fd_len {name : Str} {hsh : Int} {key v : Value} : ∀ {es : List DictEntry}, (putL name hsh key v es).length ≤ es.length + 1
  | [] => Nat.le_refl _
  | e :: r => by
    unfold putL
    by_cases he : e.key.isStr name = true
    · rw [if_pos he]; exact Nat.le_succ _
    · rw [if_neg he]; exact Nat.succ_le_succ fd_len
theorem FD.put {es : List DictEntry} {kv : List (Str × Value)} (H : FD es kv) {name : Str} {hsh : Int} {t : Tok} {v : Value} : FD (putL name hsh (.str name t) v es) ((name, v) :: kv) :=
  ⟨fd_ref.trans H.ref, Nat.le_trans fd_len (Nat.succ_le_succ H.len), fun k => by
    rw [fd_find, H.find]
    by_cases h : k = name
    · subst h; simp
    · rw [if_neg h, List.lookup_cons, show (k == name) = false by simpa using h]⟩
theorem FD.has {es : List DictEntry} {kv : List (Str × Value)} (H : FD es kv) {ks : List Str} (h : (ks.all fun k => (kv.lookup k).isSome) = true) (hh : ∀ p ∈ kv, handedIn p.2 = true) : ∀ k ∈ ks, ∃ v, getL k es = some (some v) ∧ handedIn v = true := fun k hk => by
  obtain ⟨v, hv⟩ := Option.isSome_iff_exists.mp (List.all_eq_true.mp h k hk)
  exact ⟨v, H.get hv, hh _ (mem_of_lookup hv)⟩
section
variable {prog : Program} {w : World} {A : Around} {E : Value → Shared → Prop} {s : Shared} {K : Frag} {x C dx L : Addr} {h₀ : Heap} {m : Str → Option Value} {news : List (Addr × Obj)} {g : Obj → List (Addr × Obj)} {ox : Obj} {es : List DictEntry} {kv : List (Str × Value)} {n : Nat} {name : Str} {u v : Value}
theorem updF_upd' {d : Addr} {o o' : Obj} {l : List (Addr × Obj)} {g : Obj → List (Addr × Obj)} (U : UpdF d o l g) : Upd d o o' l (g o') := by
  induction U with
  | head h => exact .head h
  | tail h _ ih => exact .tail h ih
/-- a store into a dict of fields -/
theorem set_fd {Q : Unit → Shared → Prop} (F : Fr h₀ L s.heap m) (X₀ : K.In h₀) (N : News h₀ L s.heap news) (I : InstAt s.heap x ox C (some (dictOf es n))) (hd : ox.dict = some dx)
    (hs : findIn K (.ref C) "__setattr__" = some (some (.builtin "object.__setattr__"))) (hp : plainOver K C = true) (ht : takerIn K C name = some none) (hh : hasDictIn K C = true) (H : FD es kv) (hz : kv.length ≤ 98)
    (U : UpdF dx (dictOf es n) news g)
    (h : ∀ h' es' n' tk', Fr h₀ L h' m → News h₀ L h' (g (dictOf es' n')) → FD es' ((name, v) :: kv) → Q () { s with heap := h', toks := tk' }) :
    wpAny (model prog w) A (setAttr (.ref x) name v) Q E s := by
  have H' := H.put (name := name) (hsh := PyData.keyHash w.params name) (t := s.toks + 1) (v := v)
  refine set_dict F X₀ N I hd hs hp ht hh (by rw [H.get rfl]; rfl) rfl (updF_upd' U) ?_ fun h' F' N' => h h' _ _ _ F' N' H'
  have := H'.len
  simp only [List.length_cons] at this
  omega
end
end Mine
end
section
open PySem PySem.W PyProof.Rows PySem.Calls PySem.Spec
namespace Mine
set_option genInjectivity false in
set_option genSizeOf false in
/-- what a plain field is set to -/
inductive FK where
  | none | bool (b : Bool) | int (i : Int) | str (x : Str) | obj | loc (y : Str)
def rhsK : PySem.Expr → Option FK
  | .Constant .none _ _ => some .none
  | .Constant (.bool b) _ _ => some (.bool b)
  | .Constant (.int i) _ _ => some (.int i)
  | .Constant (.str x) _ _ => some (.str x)
  | .List [] _ => some .obj
  | .Dict [] [] _ => some .obj
  | .Name y _ => some (.loc y)
  | _ => Option.none
def fieldSt (x : Str) : Stmt → Option (Str × FK)
  | .Assign [.Attribute (.Name y _) attr _] rhs _ => if y = x then (rhsK rhs).map fun k => (attr, k) else Option.none
  | _ => Option.none
def FK.Is (m : Str → Option Value) : FK → Value → Prop
  | .none, v => v = .none
  | .bool b, v => v = .bool b
  | .int i, v => ∃ t, v = .int i t
  | .str x, v => ∃ t, v = .str x t
  | .obj, v => ∃ a, v = .ref a
  | .loc y, v => m y = some v
def FK.fit (m : Str → Option Value) (env : Env) : FK → Bool
  | .loc y => (m y).isSome && decide (env.kindOf y = some .local) && !(y == ("__debug__" : Str))
  | _ => true
/-- the fields as they are laid, one upon the other -/
def Ext (m : Str → Option Value) : List (Str × FK) → List (Str × Value) → List (Str × Value) → Prop
  | [], kv, kv2 => kv2 = kv
  | (a, k) :: r, kv, kv2 => ∃ v, k.Is m v ∧ Ext m r ((a, v) :: kv) kv2
theorem Ext.len {m : Str → Option Value} : ∀ {l : List (Str × FK)} {kv kv2 : List (Str × Value)}, Ext m l kv kv2 → kv2.length = l.length + kv.length
  | [], _, _, h => by rw [show _ = _ from h]; simp
  | _ :: _, _, _, ⟨_, _, h⟩ => by rw [h.len]; simp only [List.length_cons]; omega
theorem Ext.off {m : Str → Option Value} {a : Str} : ∀ {l : List (Str × FK)} {kv kv2 : List (Str × Value)}, Ext m l kv kv2 → (l.all fun p => !(p.1 == a)) = true → kv2.lookup a = kv.lookup a
  | [], _, _, h, _ => by rw [show _ = _ from h]
  | (b, _) :: _, _, _, ⟨v, _, h⟩, ha => by
    rw [List.all_cons, Bool.and_eq_true] at ha
    rw [h.off ha.2, List.lookup_cons]
    have : (a == b) = false := by
      have h1 := ha.1
      simp only [Bool.not_eq_true', beq_eq_false_iff_ne, ne_eq] at h1
      simpa using fun e : a = b => h1 e.symm
    rw [this]
theorem Ext.at {m : Str → Option Value} {a : Str} {k : FK} {l1 l2 : List (Str × FK)} {kv2 : List (Str × Value)} (h2 : (l2.all fun p => !(p.1 == a)) = true) : ∀ {kv : List (Str × Value)}, Ext m (l1 ++ (a, k) :: l2) kv kv2 → ∃ v, kv2.lookup a = some v ∧ k.Is m v := by
  induction l1 with
  | nil => exact fun h => h.elim fun v h => ⟨v, by rw [h.2.off h2, List.lookup_cons]; simp, h.1⟩
  | cons _ _ ih => exact fun h => h.elim fun v h => ih h.2
theorem Ext.idx {m : Str → Option Value} {a : Str} {k : FK} {l : List (Str × FK)} {kv kv2 : List (Str × Value)} (H : Ext m l kv kv2) (i : Nat) (h : l[i]? = some (a, k)) (h2 : ((l.drop (i + 1)).all fun p => !(p.1 == a)) = true) : ∃ v, kv2.lookup a = some v ∧ k.Is m v := by
  obtain ⟨hi, he⟩ := List.getElem?_eq_some_iff.mp h
  have e : l.take i ++ (a, k) :: l.drop (i + 1) = l := by rw [← he, ← List.drop_eq_getElem_cons hi, List.take_append_drop]
  rw [← e] at H
  exact H.at h2
theorem Ext.isSome {m : Str → Option Value} {a : Str} : ∀ {l : List (Str × FK)} {kv kv2 : List (Str × Value)}, Ext m l kv kv2 → (l.any (fun p => a == p.1) || (kv.lookup a).isSome) = true → (kv2.lookup a).isSome = true
  | [], _, _, h, ha => by rw [show _ = _ from h]; simpa using ha
  | (b, _) :: l, kv, _, ⟨v, _, h⟩, ha => by
    refine h.isSome ?_
    rw [List.any_cons] at ha
    rw [List.lookup_cons]
    cases hb : (a == b) with
    | true => simp
    | false => rw [hb, Bool.false_or] at ha; exact ha
def FK.hand (m : Str → Option Value) : FK → Bool
  | .loc y => ((m y).map handedIn).getD true
  | _ => true
theorem FK.handed {m : Str → Option Value} {k : FK} {v : Value} (h : k.Is m v) (hl : ∀ y, k = .loc y → handedIn v = true) : handedIn v = true := by
  cases k with
  | none => obtain rfl : v = _ := h; rfl
  | bool b => obtain rfl : v = _ := h; rfl
  | int i => obtain ⟨t, rfl⟩ := h; rfl
  | str x => obtain ⟨t, rfl⟩ := h; rfl
  | obj => obtain ⟨t, rfl⟩ := h; rfl
  | loc y => exact hl y rfl
theorem hand_of {m : Str → Option Value} {l : List (Str × FK)} (h : (l.all fun p => p.2.hand m) = true) : ∀ p ∈ l, ∀ y, p.2 = .loc y → ∀ v, m y = some v → handedIn v = true := fun p hp y hy v hv => by
  have := List.all_eq_true.mp h p hp
  rw [hy] at this
  simpa [FK.hand, hv] using this
theorem Ext.handed {m : Str → Option Value} : ∀ {l : List (Str × FK)} {kv kv2 : List (Str × Value)}, Ext m l kv kv2 → (∀ p ∈ kv, handedIn p.2 = true) → (∀ p ∈ l, ∀ y, p.2 = .loc y → ∀ v, m y = some v → handedIn v = true) → ∀ p ∈ kv2, handedIn p.2 = true
  | [], _, _, h, h1, _ => by rw [show _ = _ from h]; exact h1
  | (a, k) :: r, kv, kv2, ⟨v, hv, h⟩, h1, h2 => h.handed (fun p hp => by
      rcases List.mem_cons.mp hp with rfl | hp
      · exact FK.handed hv fun y e => h2 _ (.head _) y e v (by rw [show k = .loc y from e] at hv; exact hv)
      · exact h1 p hp) fun p hp => h2 p (.tail _ hp)
section
variable {prog : Program} {w : World} {A : Around} {E : Value → Shared → Prop} {K : Frag} {ob C dx L a : Addr} {g : Heap} {m : Str → Option Value} {news : List (Addr × Obj)} {cn : Str} {cs : Scope} {ccd : Value} {cl : List (Str × Addr)}
theorem rhs_ok {s : Shared} {rhs : PySem.Expr} {k : FK} {Q : Value → Shared → Prop} (hr : rhsK rhs = some k) (F : Fr g L s.heap m) (N : News g L s.heap news) (hbig : g.NoLimit) (hk : cs.kind = .function) (hl : k.fit m (envX cn cs L a ccd cl) = true)
    (h : ∀ v h' tk', k.Is m v → Fr g L h' m → News g L h' news → Q v { s with heap := h', toks := tk' }) : wpAny (model prog w) A (eval rhs (envX cn cs L a ccd cl)) Q E s := by
  unfold rhsK at hr
  split at hr
  · cases hr; exact wpAny_Constant_none (h _ _ _ rfl F N)
  · cases hr; exact wpAny_Constant_bool (h _ _ _ rfl F N)
  · cases hr; exact wpAny_Constant_int (h _ _ _ ⟨_, rfl⟩ F N)
  · cases hr; exact Constant_str (h _ _ _ ⟨_, rfl⟩ F N)
  · cases hr
    refine List_ (spliced_nil ?_)
    refine newList_K F N ?_
    intro l h' F' N' _
    exact h _ h' s.toks ⟨_, rfl⟩ F' fun p hp => N' p (.tail _ hp)
  · cases hr
    refine newDict_K F N hbig ?_
    intro d h' o F' N' _ _ _ _ _ _
    exact h _ h' s.toks ⟨_, rfl⟩ F' fun p hp => N' p (.tail _ hp)
  · rename_i y pos
    cases hr
    simp only [FK.fit, Bool.and_eq_true, decide_eq_true_eq] at hl
    obtain ⟨⟨h1, h2⟩, h3⟩ := hl
    obtain ⟨v, hv⟩ := Option.isSome_iff_exists.mp h1
    exact nameX_L F hv (h v s.heap s.toks hv F N) hk h2 (by simpa using h3)
  · cases hr
theorem execs_fields {Q : Flow → Shared → Prop} {x : Str} (hs : findIn K (.ref C) "__setattr__" = some (some (.builtin "object.__setattr__"))) (hp : plainOver K C = true) (hh : hasDictIn K C = true) (X : K.In g) (hbig : g.NoLimit) (hk : cs.kind = .function) (hx : m x = some (.ref ob)) (hxl : (envX cn cs L a ccd cl).kindOf x = some .local) (hxd : (x == ("__debug__" : Str)) = false) (hne : @Ne Nat ob dx) (hnews : ∀ p ∈ news, p.1 ≠ dx) :
    ∀ {l rest : List Stmt} {specs : List (Str × FK)} {es : List DictEntry} {kv : List (Str × Value)} {n : Nat} {s : Shared},
    l.map (fieldSt x) = specs.map some → (∀ p ∈ specs, takerIn K C p.1 = some Option.none) → (specs.all fun p => p.2.fit m (envX cn cs L a ccd cl)) = true → specs.length + kv.length ≤ 98 →
    Fr g L s.heap m → News g L s.heap ((ob, instObj C dx) :: (dx, dictOf es n) :: news) → FD es kv →
    (∀ h' es' n' tk' kv2, Fr g L h' m → News g L h' ((ob, instObj C dx) :: (dx, dictOf es' n') :: news) → FD es' kv2 → Ext m specs kv kv2 → wpAny (model prog w) A (execs rest (envX cn cs L a ccd cl)) Q E { s with heap := h', toks := tk' }) →
    wpAny (model prog w) A (execs (l ++ rest) (envX cn cs L a ccd cl)) Q E s
  | [], rest, [], es, kv, n, s, _, _, _, _, F, N, H, go => go s.heap es n s.toks kv F N H rfl
  | [], _, _ :: _, _, _, _, _, h, _, _, _, _, _, _, _ => by cases h
  | _ :: _, _, [], _, _, _, _, h, _, _, _, _, _, _, _ => by cases h
  | st :: l, rest, (attr, k) :: specs, es, kv, n, s, h, ht, hf, hz, F, N, H, go => by
    simp only [List.map_cons, List.cons.injEq] at h
    obtain ⟨h1, h2⟩ := h
    rw [List.all_cons, Bool.and_eq_true] at hf
    unfold fieldSt at h1
    split at h1
    · rename_i y np attr' ap rhs pos
      split at h1
      · rename_i hy
        subst hy
        cases hr : rhsK rhs with
        | none => rw [hr] at h1; cases h1
        | some k' =>
          rw [hr] at h1
          cases h1
          simp only [List.length_cons] at hz
          refine wpAny_execs_cons (plainObj_wpAny_Assign_Attribute ?_ ?_)
          · refine rhs_ok hr F N hbig hk hf.1 fun v h' tk' hv F' N' => ?_
            refine nameX_L F' hx ?_ hk hxl hxd
            refine set_fd F' X N' (InstAt.of_news N' (.head _) (.tail _ (.head _))) rfl hs hp (ht _ (.head _)) hh H (by omega) (.tail (fun e => hne e) (.head hnews)) ?_
            intro h2' es' n' tk2 F2 N2 H2
            exact execs_fields hs hp hh X hbig hk hx hxl hxd hne hnews h2 (fun p hp => ht p (.tail _ hp)) hf.2 (by simp only [List.length_cons]; omega) F2 N2 H2
              fun h3 es3 n3 tk3 kv3 F3 N3 H3 e3 => go h3 es3 n3 tk3 kv3 F3 N3 H3 ⟨v, hv, e3⟩
          · unfold rhsK at hr
            split at hr <;> first | rfl | cases hr
      · cases h1
    · cases h1
/-- the form for the walk: the first fields of a body -/
theorem fields_n {s : Shared} {Q : Flow → Shared → Prop} {x : Str} (j : Nat) {body : List Stmt} {specs : List (Str × FK)} {es : List DictEntry} {kv : List (Str × Value)} {n : Nat} {all : List (Addr × Obj)} (X : K.In g) (F : Fr g L s.heap m) (N : News g L s.heap all) (hx : m x = some (.ref ob)) (ha : (ob, instObj C dx) ∈ all) (hb : (dx, dictOf es n) ∈ all) (H : FD es kv)
    (hsp : (body.take j).map (fieldSt x) = specs.map some) (hs : findIn K (.ref C) "__setattr__" = some (some (.builtin "object.__setattr__"))) (hp : plainOver K C = true) (hh : hasDictIn K C = true) (ht : ∀ p ∈ specs, takerIn K C p.1 = some Option.none) (hbig : g.NoLimit) (hk : cs.kind = .function) (hxl : (envX cn cs L a ccd cl).kindOf x = some .local) (hxd : (x == ("__debug__" : Str)) = false)
    (hf : (specs.all fun p => p.2.fit m (envX cn cs L a ccd cl)) = true) (hz : specs.length + kv.length ≤ 98) (sub : ∀ p ∈ news, p ∈ all) (hne : @Ne Nat ob dx) (hnews : ∀ p ∈ news, p.1 ≠ dx)
    (go : ∀ h' es' n' tk' kv2, Fr g L h' m → News g L h' ((ob, instObj C dx) :: (dx, dictOf es' n') :: news) → FD es' kv2 → Ext m specs kv kv2 → wpAny (model prog w) A (execs (body.drop j) (envX cn cs L a ccd cl)) Q E { s with heap := h', toks := tk' }) :
    wpAny (model prog w) A (execs body (envX cn cs L a ccd cl)) Q E s := by
  rw [← List.take_append_drop j body]
  refine execs_fields (n := n) hs hp hh X hbig hk hx hxl hxd hne hnews hsp ht hf hz F ?_ H go
  intro p hp
  rcases List.mem_cons.mp hp with rfl | hp
  · exact N _ ha
  · rcases List.mem_cons.mp hp with rfl | hp
    · exact N _ hb
    · exact N _ (sub _ hp)
end
end Mine
end
section
open PySem PySem.W PyProof.Rows PySem.Calls PySem.Spec
namespace Mine
theorem AllLt.mem' {d : Addr} : ∀ {l : List (Addr × Obj)}, AllLt d l → ∀ p ∈ l, p.1 < d
  | [], _, _, h => nomatch h
  | _ :: _, x, p, h => by
    rcases List.mem_cons.mp h with rfl | h
    · exact x.1
    · exact AllLt.mem' x.2 p h
def tyKeys : List Str := [Str.ofString "kind", Str.ofString "name", Str.ofString "number", Str.ofString "parent", Str.ofString "low", Str.ofString "high", Str.ofString "literals", Str.ofString "modulus", Str.ofString "small", Str.ofString "index", Str.ofString "component", Str.ofString "is_constrained", Str.ofString "discriminants", Str.ofString "components", Str.ofString "variant", Str.ofString "designated", Str.ofString "is_tagged", Str.ofString "wide", Str.ofString "is_limited", Str.ofString "is_private", Str.ofString "is_abstract", Str.ofString "is_constant", Str.ofString "is_late", Str.ofString "operations"]
/-- the dict of a type: the fields stand, the operations are at O -/
structure TyF (es : List DictEntry) (O : Addr) : Prop where
  len : es.length ≤ 100
  has : ∀ k ∈ tyKeys, ∃ v, getL k es = some (some v) ∧ handedIn v = true
  op : getL (Str.ofString "operations") es = some (some (.ref O))
theorem cb3 {h₀ h : Heap} {L : Addr} {all news : List (Addr × Obj)} {a b c : Addr × Obj} (N : News h₀ L h all) (ha : a ∈ all) (hb : b ∈ all) (hc : c ∈ all) (sub : ∀ p ∈ news, p ∈ all) : News h₀ L h (a :: b :: c :: news) := fun p hp => by
  rcases List.mem_cons.mp hp with rfl | hp
  · exact N _ ha
  · rcases List.mem_cons.mp hp with rfl | hp
    · exact N _ hb
    · rcases List.mem_cons.mp hp with rfl | hp
      · exact N _ hc
      · exact N _ (sub _ hp)
section
variable {prog : Program} {w : World} {A : Around} {E : Value → Shared → Prop} {s : Shared} {K : Frag} {x C dx L : Addr} {h₀ : Heap} {m : Str → Option Value} {news : List (Addr × Obj)} {g : Obj → List (Addr × Obj)} {ox : Obj} {es : List DictEntry} {n : Nat} {name : Str} {u v : Value}
theorem updF_upd {d : Addr} {o o' : Obj} {l : List (Addr × Obj)} {g : Obj → List (Addr × Obj)} (U : UpdF d o l g) : Upd d o o' l (g o') := by
  induction U with
  | head h => exact .head h
  | tail h _ ih => exact .tail h ih
/-- a store into a field that stands, in a dict that is known by its fields alone -/
theorem set_ab {Q : Unit → Shared → Prop} (F : Fr h₀ L s.heap m) (X₀ : K.In h₀) (N : News h₀ L s.heap news) (I : InstAt s.heap x ox C (some (dictOf es n))) (hd : ox.dict = some dx)
    (hs : findIn K (.ref C) "__setattr__" = some (some (.builtin "object.__setattr__"))) (hp : plainOver K C = true) (ht : takerIn K C name = some none) (hh : hasDictIn K C = true) (hl : getL name es = some (some u))
    (U : UpdF dx (dictOf es n) news g) (hz : es.length ≤ 100)
    (h : ∀ h' es' n', Fr h₀ L h' m → News h₀ L h' (g (dictOf es' n')) → es'.length ≤ 100 → getL name es' = some (some v) → (∀ k, k ≠ name → getL k es' = getL k es) → Q () { s with heap := h', toks := s.toks + 2 }) :
    wpAny (model prog w) A (setAttr (.ref x) name v) Q E s := by
  have hlen := putL_len (hsh := PyData.keyHash w.params name) (key := .str name (s.toks + 1)) (v := v) (any_of_getL hl)
  refine set_dict F X₀ N I hd hs hp ht hh (by rw [hl]; rfl) rfl (updF_upd U) (by rw [hlen]; omega) fun h' F' N' => h h' _ _ F' N' (by rw [hlen]; exact hz) (getL_eq hl) fun k hk => getL_ne hl hk
end
theorem TyF.set {es es' : List DictEntry} {O : Addr} {name : Str} {v : Value} (H : TyF es O) (hl : es'.length ≤ 100) (hv : handedIn v = true) (e1 : getL name es' = some (some v)) (e2 : ∀ k, k ≠ name → getL k es' = getL k es) (hne : Str.ofString "operations" ≠ name) : TyF es' O :=
  ⟨hl, fun k hk => by
    by_cases e : k = name
    · subst e; exact ⟨v, e1, hv⟩
    · rw [e2 k e]; exact H.has k hk, by rw [e2 _ hne]; exact H.op⟩
section
variable {prog : Program} {w : World} {A : Around} {E : Value → Shared → Prop} {s : Shared} {K : Frag} {x C dx L O : Addr} {h₀ : Heap} {m : Str → Option Value} {news : List (Addr × Obj)} {g : Obj → List (Addr × Obj)} {ox : Obj} {es : List DictEntry} {n : Nat} {name : Str} {u v : Value}
theorem set_ty {Q : Unit → Shared → Prop} (F : Fr h₀ L s.heap m) (X₀ : K.In h₀) (N : News h₀ L s.heap news) (I : InstAt s.heap x ox C (some (dictOf es n))) (hd : ox.dict = some dx)
    (hs : findIn K (.ref C) "__setattr__" = some (some (.builtin "object.__setattr__"))) (hp : plainOver K C = true) (ht : takerIn K C name = some none) (hh : hasDictIn K C = true) (H : TyF es O) (hn : name ∈ tyKeys) (hne : Str.ofString "operations" ≠ name) (hv : handedIn v = true)
    (U : UpdF dx (dictOf es n) news g)
    (h : ∀ h' es' n', Fr h₀ L h' m → News h₀ L h' (g (dictOf es' n')) → TyF es' O → getL name es' = some (some v) → (∀ k, k ≠ name → getL k es' = getL k es) → Q () { s with heap := h', toks := s.toks + 2 }) :
    wpAny (model prog w) A (setAttr (.ref x) name v) Q E s := by
  obtain ⟨u, hu, _⟩ := H.has name hn
  exact set_ab F X₀ N I hd hs hp ht hh hu U H.len fun h' es' n' F' N' hl e1 e2 => h h' es' n' F' N' (H.set hl hv e1 e2 hne) e1 e2
end
theorem tyF_two {es : List DictEntry} {kv1 kv2 : List (Str × Value)} {O D : Addr} {m1 m2 : Str → Option Value} {l1 l2 : List (Str × FK)} (H : FD es ((Str.ofString "operations", .ref O) :: kv2)) (e1 : Ext m1 l1 [] kv1) (e2 : Ext m2 l2 ((Str.ofString "small", .ref D) :: kv1) kv2) (hl : l1.length + l2.length ≤ 90)
    (hk : (tyKeys.all fun k => (k == Str.ofString "operations") || (l2.any (fun p => k == p.1) || ((k == Str.ofString "small") || l1.any (fun p => k == p.1)))) = true) (h1 : (l1.all fun p => p.2.hand m1) = true) (h2 : (l2.all fun p => p.2.hand m2) = true) : TyF es O := by
  have hh : ∀ p ∈ (Str.ofString "operations", Value.ref O) :: kv2, handedIn p.2 = true := fun p hp => by
    rcases List.mem_cons.mp hp with rfl | hp
    · rfl
    · refine e2.handed (fun p hp => ?_) (hand_of h2) p hp
      rcases List.mem_cons.mp hp with rfl | hp
      · rfl
      · exact e1.handed (fun _ h => nomatch h) (hand_of h1) p hp
  refine ⟨Nat.le_trans H.len ?_, H.has (List.all_eq_true.mpr fun k hkk => ?_) hh, H.get ?_⟩
  · rw [List.length_cons, e2.len, List.length_cons, e1.len, List.length_nil]; omega
  · have h9 := List.all_eq_true.mp hk k hkk
    rw [List.lookup_cons]
    cases hb : (k == Str.ofString "operations") with
    | true => rfl
    | false =>
      rw [hb, Bool.false_or] at h9
      refine e2.isSome ?_
      rw [List.lookup_cons]
      cases hc : (k == Str.ofString "small") with
      | true => simp
      | false =>
        rw [hc, Bool.false_or] at h9
        cases hd : l2.any (fun p => k == p.1) with
        | true => simp
        | false =>
          rw [hd, Bool.false_or] at h9
          rw [Bool.false_or]
          exact e1.isSome (by rw [h9, Bool.true_or])
  · rw [List.lookup_cons]; simp
section
variable {prog : Program} {w : World} {A : Around} {E : Value → Shared → Prop} {s : Shared} {K : Frag} {x C dx L O O' : Addr} {h₀ : Heap} {m : Str → Option Value} {news : List (Addr × Obj)} {g : Obj → List (Addr × Obj)} {ox : Obj} {es : List DictEntry} {n : Nat}
theorem set_op {Q : Unit → Shared → Prop} (F : Fr h₀ L s.heap m) (X₀ : K.In h₀) (N : News h₀ L s.heap news) (I : InstAt s.heap x ox C (some (dictOf es n))) (hd : ox.dict = some dx)
    (hs : findIn K (.ref C) "__setattr__" = some (some (.builtin "object.__setattr__"))) (hp : plainOver K C = true) (ht : takerIn K C (Str.ofString "operations") = some none) (hh : hasDictIn K C = true) (H : TyF es O)
    (U : UpdF dx (dictOf es n) news g)
    (h : ∀ h' es' n', Fr h₀ L h' m → News h₀ L h' (g (dictOf es' n')) → TyF es' O' → Q () { s with heap := h', toks := s.toks + 2 }) :
    wpAny (model prog w) A (setAttr (.ref x) (Str.ofString "operations") (.ref O')) Q E s :=
  set_ab F X₀ N I hd hs hp ht hh H.op U H.len fun h' es' n' F' N' hl e1 e2 => h h' es' n' F' N'
    ⟨hl, fun k hk => by
      by_cases e : k = Str.ofString "operations"
      · subst e; exact ⟨_, e1, rfl⟩
      · rw [e2 k e]; exact H.has k hk, e1⟩
end
local macro_rules | `(tactic| walk_at "setAttr ref") => `(tactic| (k_here; k_dflt (refine' set_fd (by k_asm) (by k_asm) (by k_asm) (by k_inst) (by exact rfl) (by k_is) (by k_is) (by k_is) (by k_is) (by first | assumption | exact FD.nil) (by first | exact Nat.le_of_ble_eq_true rfl | ((try simp only [List.length_cons]); omega)) (by k_updF) ?_); intro _ _ _ _ _ N' _; (try dsimp only at N')))
section
variable {w : World} {mean : ExcName → Option Value} {mg mb : Str → Option Value} {dp un : Nat} {gd : Option (List Code)} {cn : Str} {cs : Scope} {a : Addr} {ccd : Value} {cl : List (Str × Addr)} {outer : List Env} {A₀ : Around} {base h₀ : Heap} {L : Addr} {m : Str → Option Value} {s : Shared} {Q E : Value → Shared → Prop} {news : List (Addr × Obj)}
set_option maxHeartbeats 8000000 in
theorem type_ok {vk vn : Value}
    (B : Below A₀ base outer h₀) (F : Fr h₀ L s.heap m) (X : (Mine.h0.heap_1_1 w.params).In h₀) (T : Top Mine.h0.view_1_2 (looseW Mine.h0.view_1_2 [Str.ofString "UNSET", Str.ofString "Limits", Str.ofString "_law_places"]) mean mg mb h₀) (hk : cs.kind = .function) (hd : dp + 6 < recursionLimit) (hu : un + 150 < cLine)
    (N : News h₀ L s.heap news) (hvk : handedIn vk = true) (hvn : handedIn vn = true)
    (ret : ∀ (O T D : Addr) (oo : Obj) (es : List DictEntry) (n : Nat) (h' : Heap) (tk' : Nat), Fr h₀ L h' m → News h₀ L h' ((O, oo) :: (T, instObj 296 D) :: (D, dictOf es n) :: news) → TyF es O → oo.IsDictOf (PySem.strKind PySem.Challenge.rw_pp0008_01.row.prog w) [] → (O == sysModules) = false → (∀ p ∈ news, p.1 < D) → @LT.lt Nat _ D T → @LT.lt Nat _ T O → Q (.ref T) { s with heap := h', toks := tk' }) :
    wpAny (model PySem.Challenge.rw_pp0008_01.row.prog w) (ktrTop dp un gd cn cs L a ccd cl outer) (call (.ref 296) [vk, vn]) Q E s := by
  revert X
  k_fill
  intro X
  k_dflt (refine' call_cls ?k1 ?k2 ?k3 ?k4 ?k5 ?k6 ?_; (case k1 => k_asm); (case k2 => k_asm); (case k3 => k_asm); (case k4 => k_is); (case k5 => k_is); (case k6 => k_is); k_whole; intro x' d' h' F' N' l1 l2; (try k_lt l1); (try k_lt2 l2); (try k_sweep))
  k_dflt cell_enter
  refine' fields_n (x := Str.ofString "self") (specs := [(Str.ofString "kind", .loc (Str.ofString "kind")), (Str.ofString "name", .loc (Str.ofString "name")), (Str.ofString "number", .int 0), (Str.ofString "parent", .none), (Str.ofString "low", .none), (Str.ofString "high", .none), (Str.ofString "literals", .obj), (Str.ofString "modulus", .int 0)]) (news := news) 8 ?qX ?qF ?qN ?qx ?qa ?qb ?qH ?qsp ?qs ?qp ?qh ?qt ?qbig ?qk ?qxl ?qxd ?qf ?qz ?qsub ?qne ?qnews ?_
  case qF => k_asm
  case qN => k_asm
  case qx => exact rfl
  case qX => k_in
  case qa => k_mem
  case qb => k_mem
  case qH => exact FD.nil
  case qsp => exact rfl
  case qs => k_is
  case qp => k_is
  case qh => k_is
  case qt => repeat (first | exact List.forall_mem_nil _ | (refine List.forall_mem_cons.mpr ⟨by k_is, ?_⟩))
  case qbig => exact Top.nolimit (by k_asm)
  case qk => first | exact rfl | assumption
  case qxl => exact rfl
  case qxd => decide +kernel
  case qf => exact rfl
  case qz => first | exact Nat.le_of_ble_eq_true rfl | (simp only [List.length_cons, List.length_nil]; omega)
  case qsub => (intro p hp; repeat (first | exact hp | refine List.Mem.tail _ ?_))
  case qne => omega
  case qnews => first | exact all_ne (AllLt.mem' (by assumption)) (Nat.le_refl _) | exact fun p hp => Nat.ne_of_lt (AllLt.mem' (by assumption) p hp) | exact fun p hp => Nat.ne_of_lt ((by assumption : ∀ p ∈ news, p.1 < _) p hp) | (have h9 := (by assumption : _ ∧ AllLt _ news).2; exact fun p hp => Nat.ne_of_lt (AllLt.mem' h9 p hp))
  intro h1 es1 n1 tk1 kv1 kF1 kN1 fd1 ex1
  have kl1 := ex1.len
  simp only [List.length_cons, List.length_nil] at kl1
  simp only [List.drop_succ_cons, List.drop_zero]
  repeat ((fail_if_success (with_reducible show wpAny _ _ (execs (Stmt.Assign [Expr.Attribute _ (Str.ofString "index") _] _ _ :: _) _) _ _ _)); (first | (k_unfold; (try dsimp only)) | (k_end; wrow_close) | walk1 | (dsimp only; walk1) | (leave1; walk_say "STEP leave1"; try dsimp only) | fail "no step"))
  refine' fields_n (x := Str.ofString "self") (specs := [(Str.ofString "index", .obj), (Str.ofString "component", .none), (Str.ofString "is_constrained", .bool true), (Str.ofString "discriminants", .obj), (Str.ofString "components", .obj), (Str.ofString "variant", .none), (Str.ofString "designated", .none), (Str.ofString "is_tagged", .bool false), (Str.ofString "wide", .none), (Str.ofString "is_limited", .bool false), (Str.ofString "is_private", .bool false), (Str.ofString "is_abstract", .bool false), (Str.ofString "is_constant", .bool false), (Str.ofString "is_late", .bool false)]) (news := news) 14 ?qX ?qF ?qN ?qx ?qa ?qb ?qH ?qsp ?qs ?qp ?qh ?qt ?qbig ?qk ?qxl ?qxd ?qf ?qz ?qsub ?qne ?qnews ?_
  case qF => k_asm
  case qN => k_asm
  case qx => exact rfl
  case qX => k_in
  case qa => k_mem
  case qb => k_mem
  case qH => exact (by assumption)
  case qsp => exact rfl
  case qs => k_is
  case qp => k_is
  case qh => k_is
  case qt => repeat (first | exact List.forall_mem_nil _ | (refine List.forall_mem_cons.mpr ⟨by k_is, ?_⟩))
  case qbig => exact Top.nolimit (by k_asm)
  case qk => first | exact rfl | assumption
  case qxl => exact rfl
  case qxd => decide +kernel
  case qf => exact rfl
  case qz => first | exact Nat.le_of_ble_eq_true rfl | (simp only [List.length_cons, List.length_nil]; omega)
  case qsub => (intro p hp; repeat (first | exact hp | refine List.Mem.tail _ ?_))
  case qne => omega
  case qnews => first | exact all_ne (AllLt.mem' (by assumption)) (Nat.le_refl _) | exact fun p hp => Nat.ne_of_lt (AllLt.mem' (by assumption) p hp) | exact fun p hp => Nat.ne_of_lt ((by assumption : ∀ p ∈ news, p.1 < _) p hp) | (have h9 := (by assumption : _ ∧ AllLt _ news).2; exact fun p hp => Nat.ne_of_lt (AllLt.mem' h9 p hp))
  intro h2 es2 n2 tk2 kv2 kF2 kN2 fd2 ex2
  have kl2 := ex2.len
  simp only [List.length_cons, List.length_nil] at kl2
  simp only [List.drop_succ_cons, List.drop_zero]
  k_steps
  (with_reducible rename Fr _ _ _ _ => kF9); (with_reducible rename News _ _ _ _ => kN9); (with_reducible rename FD _ _ => fd9)
  refine ret _ x' d' _ _ _ _ _ kF9 (cb3 kN9 (.head _) (.tail _ (.head _)) (.tail _ (.tail _ (.head _))) (fun p hp => .tail _ (.tail _ (.tail _ hp)))) (tyF_two fd9 ex1 ex2 (by decide) (by decide +kernel) (by show (handedIn vk && (handedIn vn && _)) = true; rw [hvk, hvn]; rfl) rfl) (by assumption) (by assumption) ?_ l2 (by omega)
  first | assumption | exact AllLt.mem' (by assumption)
end
end Mine
end
section
open PySem PySem.W PyProof.Rows PySem.Calls PySem.Spec
namespace Mine
local macro_rules | `(tactic| walk_at "setAttr ref") => `(tactic| (k_here; k_dflt (refine' set_ty (by k_asm) (by k_asm) (by k_asm) (by k_inst) (by exact rfl) (by k_is) (by k_is) (by k_is) (by k_is) (by assumption) (by decide +kernel) (by decide +kernel) (by first | exact rfl | assumption) (by k_updF) ?_); intro _ _ _ _ N' _ e1' e2'; clear e1' e2'; (try dsimp only at N')))
local macro_rules | `(tactic| walk_at "setAttr ref") => `(tactic| (k_here; (with_reducible show wpAny _ _ (setAttr _ (Str.ofString "operations") _) _ _ _); k_dflt (refine' set_op (by k_asm) (by k_asm) (by k_asm) (by k_inst) (by exact rfl) (by k_is) (by k_is) (by k_is) (by k_is) (by assumption) (by k_updF) ?_); intro _ _ _ _ N' _; (try dsimp only at N')))
local macro_rules | `(tactic| walk_at "call ref") => `(tactic| (k_here; (with_reducible show wpAny _ _ (call (Value.ref 296) _) _ _ _); k_dflt (refine' type_ok (by k_asm) (by k_asm) (by k_asm) (by k_asm) (by first | rfl | assumption) (by ktr_room) (by ktr_units) (by k_asm) (by first | rfl | assumption) (by first | rfl | assumption) ?_; intro _ _ _ _ _ _ _ _ _ _ _ _ _ lt1' _ _; (try k_lt lt1'))))
set_option maxHeartbeats 8000000 in
theorem record_ok {w : World} {mean : ExcName → Option Value} {mg mb : Str → Option Value} {dp un : Nat} {gd : Option (List Code)} {cn : Str} {cs : Scope} {a : Addr} {ccd : Value} {cl : List (Str × Addr)} {outer : List Env} {A₀ : Around} {base h₀ : Heap} {L : Addr} {m : Str → Option Value} {s : Shared} {Q E : Value → Shared → Prop}
    {t1 : Tok} {la lb : Addr} {na nb : Nat} {news : List (Addr × Obj)}
    (B : Below A₀ base outer h₀) (F : Fr h₀ L s.heap m) (X : (Mine.h0.heap_1_1 w.params).In h₀) (T : Top Mine.h0.view_1_2 (looseW Mine.h0.view_1_2 [Str.ofString "UNSET", Str.ofString "Limits", Str.ofString "_law_places"]) mean mg mb h₀) (hk : cs.kind = .function) (hd : dp + 8 < recursionLimit) (hu : un + 200 < cLine)
    (N : News h₀ L s.heap news) (hla : (la, W.listOf #[] na) ∈ news) (hlb : (lb, W.listOf #[] nb) ∈ news)
    (ret : ∀ (O T D : Addr) (oo : Obj) (es : List DictEntry) (n : Nat) (h' : Heap) (tk' : Nat), Fr h₀ L h' m → News h₀ L h' ((O, oo) :: (T, instObj 296 D) :: (D, dictOf es n) :: news) → TyF es O → oo.IsDictOf (PySem.strKind PySem.Challenge.rw_pp0008_01.row.prog w) [] → (O == sysModules) = false → (∀ p ∈ news, p.1 < D) → @LT.lt Nat _ D T → @LT.lt Nat _ T O → Q (.ref T) { s with heap := h', toks := tk' }) :
    wpAny (model PySem.Challenge.rw_pp0008_01.row.prog w) (ktrTop dp un gd cn cs L a ccd cl outer) (call (.ref 307) [.str (Str.ofString "root") t1, .ref la, .ref lb, .none]) Q E s := by
  revert X
  k_fill
  intro X
  refine wpAny_call ?_
  k_dflt cell_enter
  k_steps
  (with_reducible rename Fr _ _ _ _ => kF9); (with_reducible rename News _ _ _ _ => kN9)
  refine' ret _ _ _ _ _ _ _ _ kF9 (cb3 kN9 ?m1 ?m2 ?m3 ?c1) ?c8 ?c3 ?c4 ?c5 ?c6 ?c7
  case m2 => k_mem
  case m3 => k_mem
  case c8 => assumption
  case m1 => k_mem
  case c1 =>
    intro p hp
    repeat (first | exact hp | refine List.Mem.tail _ ?_)
  case c3 => assumption
  case c4 => assumption
  case c5 => first | assumption | exact AllLt.mem' (by assumption)
  case c6 => omega
  case c7 => omega
end Mine
end
section
open PySem PySem.W PyProof.Rows PySem.Calls PySem.Spec
namespace Mine
theorem dict_copy {prog : Program} {w : World} {A : Around} {E : Value → Shared → Prop} {s : Shared} {h₀ : Heap} {L src : Addr} {m : Str → Option Value} {news : List (Addr × Obj)} {oo : Obj} {kvs : List (Str × Value)} {Q : Value → Shared → Prop}
    (F : Fr h₀ L s.heap m) (N : News h₀ L s.heap news) (hbig : h₀.NoLimit) (hp : (src, oo) ∈ news) (hoo : oo.IsDictOf (PySem.strKind prog w) kvs) (lo : (src == sysModules) = false) (hsz : kvs.length ≤ sizeLine)
    (k : ∀ d h' o, Fr h₀ L h' m → News h₀ L h' ((d, o) :: news) → (∀ p ∈ news, p.1 < d) → (d == sysModules) = false → o.IsDictOf (PySem.strKind prog w) kvs → Q (.ref d) { s with heap := h' }) :
    wpAny (model prog w) A (call (.type "dict") [.ref src]) Q E s := by
  refine kt_call_dict lo (kda_dict N hp hoo) hsz fun h' hm hs => ?_
  obtain ⟨o', ho', hd'⟩ := Heap.dictOf_iff.mp hm
  have N1 := News.push F N { cls := .type "dict", data := .dict #[] }
  exact k _ h' o' ((F.push _).change hs (N1 _ (.head _)).2.1 (N1.fresh (.head _))) (N1.setHead N.apart hs ho') (fun p hp => Heap.lt_size (N p hp).1) (F.notModules (modules_low hbig)) hd'
local macro_rules | `(tactic| walk_at "call type:dict") => `(tactic| (k_here; k_dflt (refine' dict_copy (by k_asm) (by k_asm) (by exact Top.nolimit (by k_asm)) (by k_mem) (by assumption) (by assumption) (by (show _ ≤ (16777216 : Nat); omega)) ?_); intro _ _ _ _ _ l1 _ _; (try k_lt l1)))
local macro_rules | `(tactic| k_handed) => `(tactic| assumption)
local macro_rules | `(tactic| walk_at "setAttr ref") => `(tactic| (k_here; k_dflt (refine' set_ty (by k_asm) (by k_asm) (by k_asm) (by k_inst) (by exact rfl) (by k_is) (by k_is) (by k_is) (by k_is) (by assumption) (by decide +kernel) (by decide +kernel) (by first | exact rfl | assumption) (by k_updF) ?_); intro _ _ _ _ N' _ e1' e2'; clear e1' e2'; (try dsimp only at N')))
local macro_rules | `(tactic| walk_at "setAttr ref") => `(tactic| (k_here; (with_reducible show wpAny _ _ (setAttr _ (Str.ofString "operations") _) _ _ _); k_dflt (refine' set_op (by k_asm) (by k_asm) (by k_asm) (by k_inst) (by exact rfl) (by k_is) (by k_is) (by k_is) (by k_is) (by assumption) (by k_updF) ?_); intro _ _ _ _ N' _; (try dsimp only at N')))
local macro_rules | `(tactic| walk_at "call ref") => `(tactic| (k_here; (with_reducible show wpAny _ _ (call (Value.ref 296) _) _ _ _); k_dflt (refine' type_ok (by k_asm) (by k_asm) (by k_asm) (by k_asm) (by first | rfl | assumption) (by ktr_room) (by ktr_units) (by k_asm) (by first | rfl | assumption) (by first | rfl | assumption) ?_; intro _ _ _ _ _ _ _ _ _ _ _ _ _ lt1' _ _; (try k_lt lt1'))))
set_option maxHeartbeats 8000000 in
theorem derived_ok {w : World} {mean : ExcName → Option Value} {mg mb : Str → Option Value} {dp un : Nat} {gd : Option (List Code)} {cn : Str} {cs : Scope} {a : Addr} {ccd : Value} {cl : List (Str × Addr)} {outer : List Env} {A₀ : Around} {base h₀ : Heap} {L : Addr} {m : Str → Option Value} {s : Shared} {Q E : Value → Shared → Prop}
    {t1 : Tok} {T0 D0 O0 : Addr} {es0 : List DictEntry} {n0 : Nat} {oo0 : Obj} {ops : List (Str × Value)} {news : List (Addr × Obj)}
    (B : Below A₀ base outer h₀) (F : Fr h₀ L s.heap m) (X : (Mine.h0.heap_1_1 w.params).In h₀) (T : Top Mine.h0.view_1_2 (looseW Mine.h0.view_1_2 [Str.ofString "UNSET", Str.ofString "Limits", Str.ofString "_law_places"]) mean mg mb h₀) (hk : cs.kind = .function) (hd : dp + 8 < recursionLimit) (hu : un + 200 < cLine)
    (N : News h₀ L s.heap news) (ht : (T0, instObj 296 D0) ∈ news) (hdd : (D0, dictOf es0 n0) ∈ news) (H0 : TyF es0 O0) (ho : (O0, oo0) ∈ news) (hoo : oo0.IsDictOf (PySem.strKind PySem.Challenge.rw_pp0008_01.row.prog w) ops) (hlo : (O0 == sysModules) = false) (hol : ops.length ≤ 100)
    (ret : ∀ (O T D : Addr) (oo : Obj) (es : List DictEntry) (n : Nat) (h' : Heap) (tk' : Nat), Fr h₀ L h' m → News h₀ L h' ((O, oo) :: (T, instObj 296 D) :: (D, dictOf es n) :: news) → TyF es O → oo.IsDictOf (PySem.strKind PySem.Challenge.rw_pp0008_01.row.prog w) ops → (O == sysModules) = false → (∀ p ∈ news, p.1 < D) → @LT.lt Nat _ D T → @LT.lt Nat _ T O → Q (.ref T) { s with heap := h', toks := tk' }) :
    wpAny (model PySem.Challenge.rw_pp0008_01.row.prog w) (ktrTop dp un gd cn cs L a ccd cl outer) (call (.ref 314) [.ref T0, .str (Str.ofString "more") t1]) Q E s := by
  obtain ⟨v_kind, g_kind, d_kind⟩ := H0.has (Str.ofString "kind") (by decide +kernel)
  obtain ⟨v_low, g_low, d_low⟩ := H0.has (Str.ofString "low") (by decide +kernel)
  obtain ⟨v_high, g_high, d_high⟩ := H0.has (Str.ofString "high") (by decide +kernel)
  obtain ⟨v_literals, g_literals, d_literals⟩ := H0.has (Str.ofString "literals") (by decide +kernel)
  obtain ⟨v_modulus, g_modulus, d_modulus⟩ := H0.has (Str.ofString "modulus") (by decide +kernel)
  obtain ⟨v_small, g_small, d_small⟩ := H0.has (Str.ofString "small") (by decide +kernel)
  obtain ⟨v_index, g_index, d_index⟩ := H0.has (Str.ofString "index") (by decide +kernel)
  obtain ⟨v_component, g_component, d_component⟩ := H0.has (Str.ofString "component") (by decide +kernel)
  obtain ⟨v_is_constrained, g_is_constrained, d_is_constrained⟩ := H0.has (Str.ofString "is_constrained") (by decide +kernel)
  obtain ⟨v_discriminants, g_discriminants, d_discriminants⟩ := H0.has (Str.ofString "discriminants") (by decide +kernel)
  obtain ⟨v_components, g_components, d_components⟩ := H0.has (Str.ofString "components") (by decide +kernel)
  obtain ⟨v_variant, g_variant, d_variant⟩ := H0.has (Str.ofString "variant") (by decide +kernel)
  obtain ⟨v_designated, g_designated, d_designated⟩ := H0.has (Str.ofString "designated") (by decide +kernel)
  obtain ⟨v_is_constant, g_is_constant, d_is_constant⟩ := H0.has (Str.ofString "is_constant") (by decide +kernel)
  obtain ⟨v_is_tagged, g_is_tagged, d_is_tagged⟩ := H0.has (Str.ofString "is_tagged") (by decide +kernel)
  obtain ⟨v_is_limited, g_is_limited, d_is_limited⟩ := H0.has (Str.ofString "is_limited") (by decide +kernel)
  have g_op := H0.op
  revert X
  k_fill
  intro X
  refine wpAny_call ?_
  k_dflt cell_enter
  k_steps
  (with_reducible rename Fr _ _ _ _ => kF9); (with_reducible rename News _ _ _ _ => kN9)
  refine' ret _ _ _ _ _ _ _ _ kF9 (cb3 kN9 ?m1 ?m2 ?m3 ?c1) ?c8 ?c3 ?c4 ?c5 ?c6 ?c7
  case m2 => k_mem
  case m3 => k_mem
  case c8 => assumption
  case m1 => k_mem
  case c1 =>
    intro p hp
    repeat (first | exact hp | refine List.Mem.tail _ ?_)
  case c3 => assumption
  case c4 => assumption
  case c5 => first | assumption | exact AllLt.mem' (by assumption)
  case c6 => omega
  case c7 => omega
end Mine
end
section
open PySem PySem.W PyProof.Rows PySem.Calls PySem.Spec
namespace Mine
local macro_rules | `(tactic| walk_at "setAttr ref") => `(tactic| (k_here; k_dflt (refine' set_ty (by k_asm) (by k_asm) (by k_asm) (by k_inst) (by exact rfl) (by k_is) (by k_is) (by k_is) (by k_is) (by assumption) (by decide +kernel) (by decide +kernel) (by exact rfl) (by assumption) ?_); intro _ _ _ _ _ _ _ e2'; clear e2'))
local macro_rules | `(tactic| k_mem) => `(tactic| assumption)
set_option maxHeartbeats 8000000 in
theorem num_ok {w : World} {mean : ExcName → Option Value} {mg mb : Str → Option Value} {dp un : Nat} {gd : Option (List Code)} {cn : Str} {cs : Scope} {a : Addr} {ccd : Value} {cl : List (Str × Addr)} {outer : List Env} {A₀ : Around} {base h₀ : Heap} {L : Addr} {m : Str → Option Value} {s : Shared} {Q E : Value → Shared → Prop}
    {k : Int} {t1 : Tok} {ty di O : Addr} {es : List DictEntry} {n : Nat} {news : List (Addr × Obj)} {g : Obj → List (Addr × Obj)}
    (B : Below A₀ base outer h₀) (F : Fr h₀ L s.heap m) (X : (Mine.h0.heap_1_1 w.params).In h₀) (T : Top Mine.h0.view_1_2 (looseW Mine.h0.view_1_2 [Str.ofString "UNSET", Str.ofString "Limits", Str.ofString "_law_places"]) mean mg mb h₀) (hk : cs.kind = .function) (hd : dp + 8 < recursionLimit) (hu : un + 100 < cLine)
    (N : News h₀ L s.heap news) (ht : (ty, instObj 296 di) ∈ news) (hdd : (di, dictOf es n) ∈ news) (H0 : TyF es O) (U : UpdF di (dictOf es n) news g)
    (ret : ∀ (h' : Heap) (es' : List DictEntry) (n' tk' : Nat), Fr h₀ L h' m → News h₀ L h' (g (dictOf es' n')) → TyF es' O → getL (Str.ofString "number") es' = some (some (.int k t1)) → Q (.ref ty) { s with heap := h', toks := tk' }) :
    wpAny (model PySem.Challenge.rw_pp0008_01.row.prog w) (ktrTop dp un gd cn cs L a ccd cl outer) (call (.ref 321) [.ref ty, .int k t1]) Q E s := by
  revert X
  k_fill
  intro X
  refine wpAny_call ?_
  k_dflt cell_enter
  k_steps
  (with_reducible rename Fr _ _ _ _ => kF9); (with_reducible rename News _ _ _ _ => kN9)
  exact ret _ _ _ _ kF9 kN9 (by assumption) (by assumption)
end Mine
end
section
open PySem PySem.W PyProof.Rows PySem.Calls PySem.Spec
namespace Mine
abbrev keyTup (K W : Nat) (t t' : Tok) (n : Nat) : Obj := { cls := .type "tuple", data := .seq #[Value.int (K : Nat) t, Value.str (wn W) t'] n }
/-- what is laid, with the object at hand and the keys' tuples in S -/
structure LaidOf (prog : Program) (w : World) (S : List (Addr × Obj)) (ol : Obj) (xs : List (List (Int ⊕ Str) × Addr × Value)) : Prop where
  ex : ol.ExactDict
  da : ∃ es ep, ol.data = .dict es ep ∧ es.toList = xs.map (entryOfKey (tupleKind (mixKind prog w)))
  keys : ∀ x ∈ xs, ∃ o items n, (x.2.1, o) ∈ S ∧ o.cls = .type "tuple" ∧ o.data = .seq items n ∧ PySem.ItemsAre (mixKind prog w) x.1 items.toList
  nodup : (xs.map (·.1)).Nodup
theorem LaidOf.mono {prog : Program} {w : World} {S S' : List (Addr × Obj)} {ol : Obj} {xs : List (List (Int ⊕ Str) × Addr × Value)} (H : LaidOf prog w S ol xs) (sub : ∀ p ∈ S, p ∈ S') : LaidOf prog w S' ol xs :=
  ⟨H.ex, H.da, fun x hx => let ⟨o, i, n, h1, r⟩ := H.keys x hx; ⟨o, i, n, sub _ h1, r⟩, H.nodup⟩
theorem LaidOf.toIn {prog : Program} {w : World} {S news : List (Addr × Obj)} {ld : Addr} {ol : Obj} {xs : List (List (Int ⊕ Str) × Addr × Value)} (H : LaidOf prog w S ol xs) (hm : (ld, ol) ∈ news) (sub : ∀ p ∈ S, p ∈ news) : LaidIn prog w news ld xs :=
  ⟨let ⟨es, ep, h1, h2⟩ := H.da; ⟨ol, es, ep, hm, H.ex, h1, h2⟩, fun x hx => let ⟨o, i, n, h1, r⟩ := H.keys x hx; ⟨o, i, n, sub _ h1, r⟩, H.nodup⟩
theorem LaidOf.nil {prog : Program} {w : World} {S : List (Addr × Obj)} {ol : Obj} (h : ol.IsDictOf (PySem.strKind prog w) []) : LaidOf prog w S ol [] := by
  obtain ⟨es, ep, h1, h2, _, h4, _⟩ := h
  refine ⟨h1, ⟨es, ep, h2, ?_⟩, (fun x hx => nomatch hx), List.nodup_nil⟩
  cases hl : es.toList with
  | nil => rfl
  | cons a r => rw [hl] at h4; cases h4
def layPut (lay : Nat → Nat → Option Nat) (K W k : Nat) : Nat → Nat → Option Nat := fun x w => if x = K ∧ w = W then some k else lay x w
theorem wn_inj {a b : Nat} (ha : a < 3) (hb : b < 3) (h : wn a = wn b) : a = b := by
  match a, ha, b, hb with
  | 0, _, 0, _ => rfl
  | 1, _, 1, _ => rfl
  | 2, _, 2, _ => rfl
  | 0, _, 1, _ => exact absurd h (by decide +kernel)
  | 0, _, 2, _ => exact absurd h (by decide +kernel)
  | 1, _, 0, _ => exact absurd h (by decide +kernel)
  | 1, _, 2, _ => exact absurd h (by decide +kernel)
  | 2, _, 0, _ => exact absurd h (by decide +kernel)
  | 2, _, 1, _ => exact absurd h (by decide +kernel)
theorem lkey_inj {t w K W : Nat} (hw : w < 3) (hW : W < 3) (h : lkey t w = lkey K W) : t = K ∧ w = W := by
  unfold lkey at h
  obtain ⟨h1, h2⟩ := List.cons.inj h
  obtain ⟨h3, _⟩ := List.cons.inj h2
  exact ⟨by have := Sum.inl.inj h1; omega, wn_inj hw hW (Sum.inr.inj h3)⟩
theorem LaidSays.none_at {lay : Nat → Nat → Option Nat} {xs : List (List (Int ⊕ Str) × Addr × Value)} (H : LaidSays lay xs) {t w : Nat} (ht : t < 3) (hw : w < 3) (h : lay t w = none) : atKey xs (lkey t w) = none := by
  have := H t w ht hw
  rw [h] at this
  simpa using this
theorem LaidSays.put {lay : Nat → Nat → Option Nat} {xs : List (List (Int ⊕ Str) × Addr × Value)} (H : LaidSays lay xs) {K W k : Nat} {a : Addr} {b : Bool} (hK : K < 3) (hW : W < 3) (h : lay K W = none) (hb : decide (0 < k) = b) :
    LaidSays (layPut lay K W k) (xs ++ [(lkey K W, a, .bool b)]) := by
  intro t w ht hw
  have hn := H.none_at hK hW h
  unfold layPut
  by_cases e : t = K ∧ w = W
  · obtain ⟨rfl, rfl⟩ := e
    have hf : xs.find? (fun x => decide (x.1 = lkey t w)) = none := by simpa [atKey] using hn
    simp only [atKey, List.find?_append, hf, and_self, if_true, Option.map_some, Option.none_or]
    rw [List.find?_cons_of_pos (by simp)]
    simp [hb]
  · rw [if_neg e, ← H t w ht hw]
    have hne : ¬ lkey K W = lkey t w := fun q => e (by obtain ⟨h1, h2⟩ := lkey_inj hW hw q; exact ⟨h1.symm, h2.symm⟩)
    have hf : List.find? (fun x : List (Int ⊕ Str) × Addr × Value => decide (x.1 = lkey t w)) [(lkey K W, a, Value.bool b)] = none := by
      rw [List.find?_cons_of_neg (by simpa using hne)]; rfl
    simp only [atKey, List.find?_append, hf, Option.or_none]
theorem set_laid {prog : Program} {w : World} {A : Around} {E : Value → Shared → Prop} {s : Shared} {h₀ : Heap} {L ld a : Addr} {m : Str → Option Value} {news S : List (Addr × Obj)} {g : Obj → List (Addr × Obj)} {ol : Obj} {xs : List (List (Int ⊕ Str) × Addr × Value)} {lay : Nat → Nat → Option Nat} {K W k : Nat} {t t' : Tok} {n : Nat} {b : Bool} {Q : Unit → Shared → Prop}
    (F : Fr h₀ L s.heap m) (N : News h₀ L s.heap news) (U : UpdF ld ol news g) (HL : LaidOf prog w S ol xs) (sub : ∀ p ∈ S, p ∈ news) (HS : LaidSays lay xs) (hm : (a, keyTup K W t t' n) ∈ news) (hK : K < 3) (hW : W < 3) (hnone : lay K W = none) (hsz : xs.length ≤ 100) (hu : A.in1.units < cLine) (hb : decide (0 < k) = b)
    (hQ : ∀ h' ol' tk, Fr h₀ L h' m → News h₀ L h' (g ol') → LaidOf prog w ((a, keyTup K W t t' n) :: S) ol' (xs ++ [(lkey K W, a, .bool b)]) → LaidSays (layPut lay K W k) (xs ++ [(lkey K W, a, .bool b)]) → Q () { s with heap := h', toks := tk }) :
    wpAny (model prog w) A (setItem (.ref ld) (.ref a) (.bool b)) Q E s := by
  obtain ⟨pre, post, rfl, hg, h1, h2⟩ := U.split
  have hmem : (ld, ol) ∈ pre ++ (ld, ol) :: post := List.mem_append_right _ (.head _)
  have hml := N (ld, ol) hmem
  have hn := HS.none_at hK hW hnone
  refine wpAny_setItem_heap (k := lkey K W) (knd := tupleKind (mixKind prog w)) hu (isKey_of (N _ hm).1) ((HL.toIn hmem sub).dictOfH N) (fun h' hd hs => ?_) (show xs.length ≤ (16777216 : Nat) by omega)
  rw [storedH_new hn] at hd
  obtain ⟨ol', es, ep, ho', hc', hdd, he, _, hnd⟩ := hd
  refine hQ h' ol' _ (F.change hs hml.2.1 hml.2.2) (hg ol' ▸ N.setIn h1 h2 hs ho') ⟨hc', ⟨es, ep, hdd, he⟩, fun x hx => ?_, hnd⟩ (HS.put hK hW hnone hb)
  rcases List.mem_append.mp hx with hx | hx
  · obtain ⟨o, i, n', h3, r⟩ := HL.keys x hx
    exact ⟨o, i, n', .tail _ h3, r⟩
  · rw [List.mem_singleton.mp hx]
    exact ⟨_, _, n, .head _, rfl, rfl, .cons (show Value.isInt (K : Nat) (.int (K : Nat) t) = true by simp [Value.isInt]) (.cons (show Value.isStrOf (wn W) (.str (wn W) t') = true by simp [Value.isStrOf]) .nil)⟩
end Mine
end
section
open PySem PySem.W PyProof.Rows PySem.Calls PySem.Spec
namespace Mine
theorem three_cases {n : Nat} (h : n < 3) : n = 0 ∨ n = 1 ∨ n = 2 := by omega
theorem nm_inj {x w K W : Nat} (hx : x < 3) (hw : w < 3) (hK : K < 3) (hW : W < 3) (h : nm x w = nm K W) : x = K ∧ w = W := by
  have key : ∀ x w K W : Fin 3, nm x w = nm K W → (x : Nat) = K ∧ (w : Nat) = W := by decide +kernel
  exact key ⟨x, hx⟩ ⟨w, hw⟩ ⟨K, hK⟩ ⟨W, hW⟩ h
theorem layPut_self {lay : Nat → Nat → Option Nat} {K W k : Nat} : layPut lay K W k K W = some k := by simp [layPut]
theorem layPut_ne {lay : Nat → Nat → Option Nat} {K W k x w : Nat} (h : ¬ (x = K ∧ w = W)) : layPut lay K W k x w = lay x w := by simp [layPut, h]
theorem near_congr {p2 : Nat} {lay lay' : Nat → Nat → Option Nat} {w t : Nat} (hp : p2 < 2) (ht : t < 3) (h : ∀ x, x ≤ t → lay' x w = lay x w) : near p2 lay' w t = near p2 lay w t := by
  rcases three_cases ht with rfl | rfl | rfl
  · simp only [near, h 0 (by omega)]
  · simp only [near, h 0 (by omega), h 1 (by omega)]
  · simp only [near, h 0 (by omega), h 1 (by omega), h 2 (by omega)]
theorem near_put {p2 : Nat} {lay : Nat → Nat → Option Nat} {w t K W k : Nat} (hp : p2 < 2) (ht : t < 3) (h : t < K ∨ w ≠ W) : near p2 (layPut lay K W k) w t = near p2 lay w t :=
  near_congr hp ht fun x hx => layPut_ne (by rintro ⟨rfl, rfl⟩; rcases h with h | h <;> omega)
theorem near_self {p2 : Nat} {lay : Nat → Nat → Option Nat} {K W k : Nat} (hK : K < 3) : near p2 (layPut lay K W k) W K = some K :=
  near_hit hK (by rw [layPut_self]; rfl)
theorem find_map_store {kvs : List (Str × Value)} {k k' : Str} {v : Value} : ((kvs.map fun kv => if kv.1 = k then (kv.1, v) else kv).find? fun kv => decide (kv.1 = k')).map (·.2) = if k' = k then (if kvs.any (fun kv => decide (kv.1 = k)) then some v else none) else valueAt kvs k' := by
  induction kvs with
  | nil => unfold valueAt; simp
  | cons a r ih =>
    rw [List.map_cons, List.find?_cons]
    by_cases ha : a.1 = k
    · simp only [if_pos ha]
      by_cases hk : k' = k
      · subst hk
        simp [ha]
      · have h1 : decide (a.1 = k') = false := decide_eq_false (fun e => hk (e.symm.trans ha))
        simp only [h1, ih, if_neg hk]
        unfold valueAt
        rw [List.find?_cons]
        simp only [h1]
    · simp only [if_neg ha]
      by_cases hk : k' = k
      · subst hk
        have h1 : decide (a.1 = k') = false := decide_eq_false ha
        simp only [h1, ih, if_true, List.any_cons, Bool.false_or]
      · unfold valueAt
        rw [List.find?_cons]
        cases h1 : decide (a.1 = k') with
        | true => simp [if_neg hk]
        | false =>
          simp only [ih, if_neg hk]
          rfl
theorem valueAt_stored {kvs : List (Str × Value)} {k k' : Str} {v : Value} : valueAt (stored kvs k v) k' = if k' = k then some v else valueAt kvs k' := by
  unfold stored
  by_cases h : kvs.any (fun kv => decide (kv.1 = k)) = true
  · rw [if_pos h]
    show ((kvs.map fun kv => if kv.1 = k then (kv.1, v) else kv).find? fun kv => decide (kv.1 = k')).map (·.2) = _
    rw [find_map_store, if_pos h]
  · rw [if_neg h]
    have hn : kvs.find? (fun kv => decide (kv.1 = k)) = none := by
      rw [List.find?_eq_none]
      intro x hx hd
      exact h (List.any_eq_true.mpr ⟨x, hx, hd⟩)
    show ((kvs ++ [(k, v)]).find? fun kv => decide (kv.1 = k')).map (·.2) = _
    rw [List.find?_append]
    by_cases hk : k' = k
    · subst hk
      rw [hn, if_pos rfl, Option.none_or, List.find?_cons_of_pos (by simp)]
      rfl
    · rw [if_neg hk, List.find?_cons_of_neg (by simpa using fun e => hk e.symm), List.find?_nil, Option.or_none]
      rfl
theorem valueAt_put {kvs : List (Str × Value)} {k : Str} {v : Value} : valueAt (stored kvs k v) k = some v := by rw [valueAt_stored, if_pos rfl]
theorem valueAt_put_ne {kvs : List (Str × Value)} {k k' : Str} {v : Value} (h : k' ≠ k) : valueAt (stored kvs k v) k' = valueAt kvs k' := by rw [valueAt_stored, if_neg h]
end Mine
end
section
open PySem PySem.W PyProof.Rows PySem.Calls PySem.Spec
namespace Mine
/-- the def's own data, out of the written part -/
noncomputable def lineData (P : Params) : Option FuncData := ((Mine.h0.heap_1_1 P).lookup 341).bind fun o => match o.data with | .func f => some f | _ => none
/-- the loop over the words -/
noncomputable def wordsFor (P : Params) : Option Stmt := (lineData P).bind fun f => match f.body with
  | .stmts (_ :: .For _ _ (_ :: _ :: _ :: st :: _) _ _ :: _) => some st
  | _ => none
/-- copies of the places -/
def plc (w : Nat) : List Value := match w with | 0 => [.int 1 760, .int 2 761] | 1 => [.int 0 763] | _ => [.int 0 765, .int 1 766]
/-- the state of the loop over the words of type K: W words are done -/
structure WD (prog : Program) (wo : World) (p2 : Nat) (bx c ld nin nout O : Addr) (S₀ R : List (Addr × Obj)) (K W : Nat) (nmax : Int) (lay : Nat → Nat → Option Nat)
    (ob ol oo oin oout : Obj) (S : List (Addr × Obj)) (tb : Tok) (n : Int) (xs : List (List (Int ⊕ Str) × Addr × Value)) (ops kin kout : List (Str × Value)) (th : Nat → Nat → Addr) : Prop where
  sub : ∀ p ∈ S₀, p ∈ S
  off : ∀ p ∈ S, (p.1 ≠ bx ∧ p.1 ≠ ld ∧ p.1 ≠ O ∧ p.1 ≠ nin ∧ p.1 ≠ nout) ∧ ∀ r ∈ R, p.1 ≠ r.1
  hob : ob.IsDictOf (PySem.strKind prog wo) [(Str.ofString "cells", Value.ref c), (Str.ofString "at", Value.int n tb)]
  n0 : 0 ≤ n
  n1 : n ≤ nmax + 2 * (W : Nat)
  hol : LaidOf prog wo S ol xs
  hls : LaidSays lay xs
  hxs : xs.length ≤ 3 * K + W
  hoo : oo.IsDictOf (PySem.strKind prog wo) ops
  hop : ops.length ≤ 3 * K + W
  hin : oin.IsDictOf (PySem.strKind prog wo) kin
  hkin : kin.length ≤ 3 * K + W
  hout : oout.IsDictOf (PySem.strKind prog wo) kout
  hkout : kout.length ≤ 3 * K + W
  vop : ∀ w, w < 3 → ∃ t, valueAt ops (wn w) = (near p2 lay w K).map fun x => Value.str (nm x w) t
  vin : ∀ x w, x < 3 → w < 3 → valueAt kin (nm x w) = if lay x w = some 1 then some (.ref (th x w)) else none
  vout : ∀ x w, x < 3 → w < 3 → valueAt kout (nm x w) = if lay x w = none ∨ lay x w = some 0 ∨ lay x w = some 1 then none else some (.ref (th x w))
  thing : ∀ x w k, x < 3 → w < 3 → lay x w = some k → 0 < k → ∃ dt et nt sb ds eb ns ct nc t, (th x w, instObj 157 dt) ∈ S ∧ (dt, dictOf et nt) ∈ S ∧ getL (Str.ofString "sub") et = some (some (.ref sb)) ∧
    (sb, instObj 190 ds) ∈ S ∧ (ds, dictOf eb ns) ∈ S ∧ getL (Str.ofString "name") eb = some (some (.str (nm x w) t)) ∧ getL (Str.ofString "control") eb = some (some (.ref ct)) ∧ (ct, PySem.W.listOf (plc w).toArray nc) ∈ S
  new : ∀ x w, x < 3 → w < 3 → (K < x ∨ (x = K ∧ W ≤ w)) → lay x w = none
/-- the names that the loop reads -/
structure WM (m : Str → Option Value) (bx ld inn out T : Addr) (K : Nat) : Prop where
  box : m (Str.ofString "box") = some (.ref bx)
  laid : m (Str.ofString "laid") = some (.ref ld)
  inner : m (Str.ofString "inner") = some (.ref inn)
  outer : m (Str.ofString "outer") = some (.ref out)
  made : m (Str.ofString "made") = some (.ref T)
  at_ : ∃ t, m (Str.ofString "at") = some (.int (K : Nat) t)
end Mine
end
section
open PySem PySem.W PyProof.Rows PySem.Calls PySem.Spec
namespace Mine
theorem stored_len {kvs : List (Str × Value)} {k : Str} {v : Value} : (stored kvs k v).length ≤ kvs.length + 1 := by
  unfold stored
  split
  · rw [List.length_map]; omega
  · rw [List.length_append]; exact Nat.le_refl _
/-- an address beyond those that turn -/
def Above (I bx ld O nin nout a : Addr) : Prop := @LT.lt Nat _ I a ∧ @LT.lt Nat _ bx a ∧ @LT.lt Nat _ ld a ∧ @LT.lt Nat _ O a ∧ @LT.lt Nat _ nin a ∧ @LT.lt Nat _ nout a
theorem Above.up {I bx ld O nin nout a b : Addr} (h : Above I bx ld O nin nout a) (hab : @LE.le Nat _ a b) : Above I bx ld O nin nout b :=
  ⟨Nat.lt_of_lt_of_le h.1 hab, Nat.lt_of_lt_of_le h.2.1 hab, Nat.lt_of_lt_of_le h.2.2.1 hab, Nat.lt_of_lt_of_le h.2.2.2.1 hab, Nat.lt_of_lt_of_le h.2.2.2.2.1 hab, Nat.lt_of_lt_of_le h.2.2.2.2.2 hab⟩
theorem nm_eq {i K : Nat} (hK : K < 3) : wn i ++ Str.ofString "#" ++ Txt.item (Str.ofString "abc") (K : Int) = nm K i := by rw [item_abc hK]; rfl
section
variable {prog : Program} {wo : World} {p2 : Nat} {bx c ld nin nout O I : Addr} {S₀ R S : List (Addr × Obj)} {K W : Nat} {nmax : Int} {lay : Nat → Nat → Option Nat}
  {ob ol oo oin oout ob2 ol2 oo2 oin2 oout2 oI : Obj} {tb tb2 : Tok} {n : Int} {xs xs2 : List (List (Int ⊕ Str) × Addr × Value)} {ops kin kout kin2 kout2 : List (Str × Value)} {th : Nat → Nat → Addr}
theorem WD.skip (H : WD prog wo p2 bx c ld nin nout O S₀ R K W nmax lay ob ol oo oin oout S tb n xs ops kin kout th) (hob : ob2.IsDictOf (PySem.strKind prog wo) [(Str.ofString "cells", Value.ref c), (Str.ofString "at", Value.int (n + 1) tb2)]) :
    WD prog wo p2 bx c ld nin nout O S₀ R K (W + 1) nmax lay ob2 ol oo oin oout S tb2 (n + 1) xs ops kin kout th where
  sub := H.sub
  off := H.off
  hob := hob
  n0 := by have := H.n0; omega
  n1 := by have := H.n1; omega
  hol := H.hol
  hls := H.hls
  hxs := by have := H.hxs; omega
  hoo := H.hoo
  hop := by have := H.hop; omega
  hin := H.hin
  hkin := by have := H.hkin; omega
  hout := H.hout
  hkout := by have := H.hkout; omega
  vop := H.vop
  vin := H.vin
  vout := H.vout
  thing := H.thing
  new := fun x w hx hw h => H.new x w hx hw (by omega)
theorem WD.putW (H : WD prog wo p2 bx c ld nin nout O S₀ R K W nmax lay ob ol oo oin oout S tb n xs ops kin kout th) (hK : K < 3) (hW : W < 3) (hp2 : p2 < 2) {k : Nat} {te Dt : Addr} {ta tv t : Tok} {nD : Nat} {S2 : List (Addr × Obj)} {NAME : Str}
    (hoI : ∀ p ∈ S, p.1 ≠ I) (hN : NAME = nm K W)
    (hsub : ∀ p ∈ S, p ∈ S2) (hoff : ∀ p ∈ S2, p ∈ S ∨ (Above I bx ld O nin nout p.1 ∧ ∀ r ∈ R, r.1 < p.1))
    (hob : ob2.IsDictOf (PySem.strKind prog wo) [(Str.ofString "cells", Value.ref c), (Str.ofString "at", Value.int (n + 1 + 1) tb2)])
    (HL : LaidOf prog wo ((Dt, keyTup K W ta tv nD) :: S) ol2 xs2) (hx2 : xs2.length = xs.length + 1) (hD : (Dt, keyTup K W ta tv nD) ∈ S2) (HS : LaidSays (layPut lay K W k) xs2)
    (hoo : oo2.IsDictOf (PySem.strKind prog wo) (stored ops (wn W) (.str NAME t)))
    (hin : oin2.IsDictOf (PySem.strKind prog wo) kin2) (hout : oout2.IsDictOf (PySem.strKind prog wo) kout2)
    (way : (k = 0 ∧ kin2 = kin ∧ kout2 = kout) ∨ (k = 1 ∧ kin2 = stored kin NAME (.ref te) ∧ kout2 = kout) ∨ (2 ≤ k ∧ kin2 = kin ∧ kout2 = stored kout NAME (.ref te)))
    (hth : 0 < k → ∃ dt et nt sb ds eb ns ct nc t, (te, instObj 157 dt) ∈ S2 ∧ (dt, dictOf et nt) ∈ S2 ∧ getL (Str.ofString "sub") et = some (some (.ref sb)) ∧
      (sb, instObj 190 ds) ∈ S2 ∧ (ds, dictOf eb ns) ∈ S2 ∧ getL (Str.ofString "name") eb = some (some (.str NAME t)) ∧ getL (Str.ofString "control") eb = some (some (.ref ct)) ∧ (ct, PySem.W.listOf (plc W).toArray nc) ∈ S2) :
    WD prog wo p2 bx c ld nin nout O S₀ R K (W + 1) nmax (layPut lay K W k) ob2 ol2 oo2 oin2 oout2 S2 tb2 (n + 1 + 1) xs2 (stored ops (wn W) (.str NAME t)) kin2 kout2 (fun x w => if x = K ∧ w = W then te else th x w) ∧ ∀ p ∈ S2, p.1 ≠ I := by
  subst hN
  have hnew := H.new K W hK hW (.inr ⟨rfl, Nat.le_refl _⟩)
  have v1 : valueAt kin (nm K W) = none := by rw [H.vin K W hK hW, hnew]; rfl
  have v2 : valueAt kout (nm K W) = none := by rw [H.vout K W hK hW, hnew]; rfl
  refine ⟨⟨fun p hp => hsub p (H.sub p hp), fun p hp => ?_, hob, by have := H.n0; omega, by have := H.n1; omega, HL.mono ?_, HS, by have := H.hxs; omega, hoo, ?_, hin, ?_, hout, ?_, ?_, ?_, ?_, ?_, ?_⟩, fun p hp => ?_⟩
  · rcases hoff p hp with h | ⟨⟨h1, h2, h3, h4, h5, h6⟩, h7⟩
    · exact H.off p h
    · exact ⟨⟨Nat.ne_of_gt h2, Nat.ne_of_gt h3, Nat.ne_of_gt h4, Nat.ne_of_gt h5, Nat.ne_of_gt h6⟩, fun r hr => Nat.ne_of_gt (h7 r hr)⟩
  · intro p hp
    rcases List.mem_cons.mp hp with rfl | hp
    · exact hD
    · exact hsub p hp
  · have := H.hop; have := stored_len (kvs := ops) (k := wn W) (v := .str (nm K W) t); omega
  · have := H.hkin
    rcases way with ⟨_, rfl, _⟩ | ⟨_, rfl, _⟩ | ⟨_, rfl, _⟩
    · omega
    · have := stored_len (kvs := kin) (k := nm K W) (v := .ref te); omega
    · omega
  · have := H.hkout
    rcases way with ⟨_, _, rfl⟩ | ⟨_, _, rfl⟩ | ⟨_, _, rfl⟩
    · omega
    · omega
    · have := stored_len (kvs := kout) (k := nm K W) (v := .ref te); omega
  · intro w hw
    by_cases e : w = W
    · subst e
      exact ⟨t, by rw [valueAt_put, near_self hK]; rfl⟩
    · obtain ⟨t', h⟩ := H.vop w hw
      exact ⟨t', by rw [valueAt_put_ne (fun q => e (wn_inj hw hW q)), near_put hp2 hK (.inr e), h]⟩
  · intro x w hx hw
    by_cases e : x = K ∧ w = W
    · obtain ⟨rfl, rfl⟩ := e
      rw [layPut_self]
      rcases way with ⟨rfl, rfl, _⟩ | ⟨rfl, rfl, _⟩ | ⟨h2, rfl, _⟩
      · rw [v1]; rfl
      · rw [valueAt_put]; simp
      · rw [v1, if_neg (fun q => by cases q; omega)]
    · have hne : nm x w ≠ nm K W := fun q => e (nm_inj hx hw hK hW q)
      rw [layPut_ne e]
      simp only [if_neg e]
      rcases way with ⟨_, rfl, _⟩ | ⟨_, rfl, _⟩ | ⟨_, rfl, _⟩
      · exact H.vin x w hx hw
      · rw [valueAt_put_ne hne]; exact H.vin x w hx hw
      · exact H.vin x w hx hw
  · intro x w hx hw
    by_cases e : x = K ∧ w = W
    · obtain ⟨rfl, rfl⟩ := e
      rw [layPut_self]
      rcases way with ⟨rfl, _, rfl⟩ | ⟨rfl, _, rfl⟩ | ⟨h2, _, rfl⟩
      · rw [v2]; rfl
      · rw [v2]; rfl
      · rw [valueAt_put, if_neg (fun q => by rcases q with q | q | q <;> cases q <;> omega)]; simp
    · have hne : nm x w ≠ nm K W := fun q => e (nm_inj hx hw hK hW q)
      rw [layPut_ne e]
      simp only [if_neg e]
      rcases way with ⟨_, _, rfl⟩ | ⟨_, _, rfl⟩ | ⟨_, _, rfl⟩
      · exact H.vout x w hx hw
      · exact H.vout x w hx hw
      · rw [valueAt_put_ne hne]; exact H.vout x w hx hw
  · intro x w k' hx hw hk h0
    by_cases e : x = K ∧ w = W
    · obtain ⟨rfl, rfl⟩ := e
      rw [layPut_self] at hk
      cases hk
      simp only [and_self, if_true]
      exact hth h0
    · rw [layPut_ne e] at hk
      simp only [if_neg e]
      obtain ⟨dt, et, nt, sb, ds, eb, ns, ct, nc, t', h1, h2, h3, h4, h5, h6, h7, h8⟩ := H.thing x w k' hx hw hk h0
      exact ⟨dt, et, nt, sb, ds, eb, ns, ct, nc, t', hsub _ h1, hsub _ h2, h3, hsub _ h4, hsub _ h5, h6, h7, hsub _ h8⟩
  · intro x w hx hw h
    rw [layPut_ne (by omega)]
    exact H.new x w hx hw (by omega)
  · rcases hoff p hp with h | h
    · exact hoI p h
    · exact Nat.ne_of_gt h.1.1
/-- between the turns of the loop over the words -/
def JW (prog : Program) (wo : World) (p2 : Nat) (bx c ld nin nout O : Addr) (S₀ R : List (Addr × Obj)) (K : Nat) (nmax : Int) (lay : Nat → Nat → Option Nat) (m : Str → Option Value) (i : Nat) (m' : Str → Option Value) (nx : List (Addr × Obj)) : Prop :=
  (∀ y, y ∉ [Str.ofString "word", Str.ofString "way", Str.ofString "sub", Str.ofString "frame"] → m' y = m y) ∧ ∃ (lay' : Nat → Nat → Option Nat) (ob' ol' oo' oin' oout' : Obj) (S' : List (Addr × Obj)) (tb' : Tok) (n' : Int) (xs' : List (List (Int ⊕ Str) × Addr × Value)) (ops' kin' kout' : List (Str × Value)) (th' : Nat → Nat → Addr),
      nx = (bx, ob') :: (ld, ol') :: (O, oo') :: (nin, oin') :: (nout, oout') :: (R ++ S') ∧ WD prog wo p2 bx c ld nin nout O S₀ R K i nmax lay' ob' ol' oo' oin' oout' S' tb' n' xs' ops' kin' kout' th' ∧ (∀ x w, x < K → lay' x w = lay x w)
theorem off_I {S2 : List (Addr × Obj)} (iR : ∀ r ∈ R, r.1 ≠ I) (i1 : @Ne Nat bx I) (i2 : @Ne Nat ld I) (i3 : @Ne Nat O I) (i4 : @Ne Nat nin I) (i5 : @Ne Nat nout I) (i6 : ∀ p ∈ S2, p.1 ≠ I) :
    ∀ p ∈ (bx, ob) :: (ld, ol) :: (O, oo) :: (nin, oin) :: (nout, oout) :: (R ++ S2), p.1 ≠ I := by
  intro p hp
  rcases List.mem_cons.mp hp with rfl | hp
  · exact i1
  rcases List.mem_cons.mp hp with rfl | hp
  · exact i2
  rcases List.mem_cons.mp hp with rfl | hp
  · exact i3
  rcases List.mem_cons.mp hp with rfl | hp
  · exact i4
  rcases List.mem_cons.mp hp with rfl | hp
  · exact i5
  rcases List.mem_append.mp hp with hp | hp
  · exact iR p hp
  · exact i6 p hp
theorem jw_end (H : WD prog wo p2 bx c ld nin nout O S₀ R K W nmax lay ob ol oo oin oout S tb n xs ops kin kout th) {lay₀ : Nat → Nat → Option Nat} {m m2 : Str → Option Value} (hl : ∀ x w, x < K → lay x w = lay₀ x w) (hK : K < 3) (hW : W < 3) (hp2 : p2 < 2) {k : Nat} {te Dt : Addr} {ta tv t : Tok} {nD : Nat} {S2 : List (Addr × Obj)} {NAME : Str}
    (iR : ∀ r ∈ R, r.1 ≠ I) (i1 : @Ne Nat bx I) (i2 : @Ne Nat ld I) (i3 : @Ne Nat O I) (i4 : @Ne Nat nin I) (i5 : @Ne Nat nout I) (hoI : ∀ p ∈ S, p.1 ≠ I) (hN : NAME = nm K W)
    (hm : ∀ y, y ∉ [Str.ofString "word", Str.ofString "way", Str.ofString "sub", Str.ofString "frame"] → m2 y = m y)
    (hsub : ∀ p ∈ S, p ∈ S2) (hoff : ∀ p ∈ S2, p ∈ S ∨ (Above I bx ld O nin nout p.1 ∧ ∀ r ∈ R, r.1 < p.1))
    (hob : ob2.IsDictOf (PySem.strKind prog wo) [(Str.ofString "cells", Value.ref c), (Str.ofString "at", Value.int (n + 1 + 1) tb2)])
    (HL : LaidOf prog wo ((Dt, keyTup K W ta tv nD) :: S) ol2 xs2) (hx2 : xs2.length = xs.length + 1) (hD : (Dt, keyTup K W ta tv nD) ∈ S2) (HS : LaidSays (layPut lay K W k) xs2)
    (hoo : oo2.IsDictOf (PySem.strKind prog wo) (stored ops (wn W) (.str NAME t)))
    (hin : oin2.IsDictOf (PySem.strKind prog wo) kin2) (hout : oout2.IsDictOf (PySem.strKind prog wo) kout2)
    (way : (k = 0 ∧ kin2 = kin ∧ kout2 = kout) ∨ (k = 1 ∧ kin2 = stored kin NAME (.ref te) ∧ kout2 = kout) ∨ (2 ≤ k ∧ kin2 = kin ∧ kout2 = stored kout NAME (.ref te)))
    (hth : 0 < k → ∃ dt et nt sb ds eb ns ct nc t, (te, instObj 157 dt) ∈ S2 ∧ (dt, dictOf et nt) ∈ S2 ∧ getL (Str.ofString "sub") et = some (some (.ref sb)) ∧
      (sb, instObj 190 ds) ∈ S2 ∧ (ds, dictOf eb ns) ∈ S2 ∧ getL (Str.ofString "name") eb = some (some (.str NAME t)) ∧ getL (Str.ofString "control") eb = some (some (.ref ct)) ∧ (ct, PySem.W.listOf (plc W).toArray nc) ∈ S2) :
    JW prog wo p2 bx c ld nin nout O S₀ R K nmax lay₀ m (W + 1) m2 ((bx, ob2) :: (ld, ol2) :: (O, oo2) :: (nin, oin2) :: (nout, oout2) :: (R ++ S2)) ∧ ∀ p ∈ (bx, ob2) :: (ld, ol2) :: (O, oo2) :: (nin, oin2) :: (nout, oout2) :: (R ++ S2), p.1 ≠ I := by
  obtain ⟨h1, h2⟩ := WD.putW H hK hW hp2 hoI hN hsub hoff hob HL hx2 hD HS hoo hin hout way hth
  exact ⟨⟨hm, _, _, _, _, _, _, _, _, _, _, _, _, _, _, rfl, h1, fun x w hx => by rw [layPut_ne (by omega)]; exact hl x w hx⟩, off_I iR i1 i2 i3 i4 i5 h2⟩
theorem jw_skip (H : WD prog wo p2 bx c ld nin nout O S₀ R K W nmax lay ob ol oo oin oout S tb n xs ops kin kout th) {lay₀ : Nat → Nat → Option Nat} {m m2 : Str → Option Value} (hl : ∀ x w, x < K → lay x w = lay₀ x w)
    (iR : ∀ r ∈ R, r.1 ≠ I) (i1 : @Ne Nat bx I) (i2 : @Ne Nat ld I) (i3 : @Ne Nat O I) (i4 : @Ne Nat nin I) (i5 : @Ne Nat nout I) (hoI : ∀ p ∈ S, p.1 ≠ I)
    (hm : ∀ y, y ∉ [Str.ofString "word", Str.ofString "way", Str.ofString "sub", Str.ofString "frame"] → m2 y = m y)
    (hob : ob2.IsDictOf (PySem.strKind prog wo) [(Str.ofString "cells", Value.ref c), (Str.ofString "at", Value.int (n + 1) tb2)]) :
    JW prog wo p2 bx c ld nin nout O S₀ R K nmax lay₀ m (W + 1) m2 ((bx, ob2) :: (ld, ol) :: (O, oo) :: (nin, oin) :: (nout, oout) :: (R ++ S)) ∧ ∀ p ∈ (bx, ob2) :: (ld, ol) :: (O, oo) :: (nin, oin) :: (nout, oout) :: (R ++ S), p.1 ≠ I :=
  ⟨⟨hm, _, _, _, _, _, _, _, _, _, _, _, _, _, _, rfl, WD.skip H hob, hl⟩, off_I iR i1 i2 i3 i4 i5 hoI⟩
end
theorem turnJ_end {h₀ h' : Heap} {L I : Addr} {oI : Obj} {Jn : (Str → Option Value) → List (Addr × Obj) → Prop} {s₁ : Shared} {Q : Flow → Shared → Prop} {m' : Str → Option Value} {nx : List (Addr × Obj)} {tk : Nat} {fl : Flow} (hf : fl = .next ∨ fl = .cont)
    (F : Fr h₀ L h' m') (N : News h₀ L h' ((I, oI) :: nx)) (h : Jn m' nx ∧ ∀ p ∈ nx, p.1 ≠ I) : TurnJ h₀ L I oI Jn s₁ Q fl { s₁ with heap := h', toks := tk } := by
  rcases hf with rfl | rfl
  · exact ⟨h', tk, m', nx, rfl, F, N, h.2, h.1⟩
  · exact ⟨h', tk, m', nx, rfl, F, N, h.2, h.1⟩
section
variable {h₀ h : Heap} {L : Addr} {a1 a2 a3 a4 a5 a6 i b1 b2 b3 b4 b5 : Addr × Obj} {R S : List (Addr × Obj)}
theorem reo6 (N : News h₀ L h (a1 :: a2 :: a3 :: a4 :: a5 :: a6 :: i :: b1 :: b2 :: b3 :: b4 :: b5 :: (R ++ S))) : News h₀ L h (i :: b1 :: b2 :: b3 :: b4 :: b5 :: (R ++ (a1 :: a2 :: a3 :: a4 :: a5 :: a6 :: S))) := fun p hp => N p (by
  simp only [List.mem_cons, List.mem_append] at hp ⊢
  rcases hp with h | h | h | h | h | h | h | h | h | h | h | h | h | h <;> simp only [h, true_or, or_true])
theorem reo4 (N : News h₀ L h (a3 :: a4 :: a5 :: a6 :: i :: b1 :: b2 :: b3 :: b4 :: b5 :: (R ++ S))) : News h₀ L h (i :: b1 :: b2 :: b3 :: b4 :: b5 :: (R ++ (a3 :: a4 :: a5 :: a6 :: S))) := fun p hp => N p (by
  simp only [List.mem_cons, List.mem_append] at hp ⊢
  rcases hp with h | h | h | h | h | h | h | h | h | h | h | h <;> simp only [h, true_or, or_true])
end
section
variable {m₁ m : Str → Option Value} {va vb vc vd : Option Value} (hm : ∀ y, y ∉ [Str.ofString "word", Str.ofString "way", Str.ofString "sub", Str.ofString "frame"] → m₁ y = m y)
include hm
theorem miss1 : ∀ y, y ∉ [Str.ofString "word", Str.ofString "way", Str.ofString "sub", Str.ofString "frame"] → (fun y => if y = Str.ofString "word" then vd else m₁ y) y = m y := by
  intro y hy
  have hy' := hy
  simp only [List.mem_cons, List.not_mem_nil, or_false, not_or] at hy'
  obtain ⟨a, b, c, d⟩ := hy'
  simp only [if_neg a]
  exact hm y hy
theorem miss3 : ∀ y, y ∉ [Str.ofString "word", Str.ofString "way", Str.ofString "sub", Str.ofString "frame"] → (fun y => if y = Str.ofString "sub" then vb else if y = Str.ofString "way" then vc else if y = Str.ofString "word" then vd else m₁ y) y = m y := by
  intro y hy
  have hy' := hy
  simp only [List.mem_cons, List.not_mem_nil, or_false, not_or] at hy'
  obtain ⟨a, b, c, d⟩ := hy'
  simp only [if_neg a, if_neg b, if_neg c]
  exact hm y hy
theorem miss4 : ∀ y, y ∉ [Str.ofString "word", Str.ofString "way", Str.ofString "sub", Str.ofString "frame"] → (fun y => if y = Str.ofString "frame" then va else if y = Str.ofString "sub" then vb else if y = Str.ofString "way" then vc else if y = Str.ofString "word" then vd else m₁ y) y = m y := by
  intro y hy
  have hy' := hy
  simp only [List.mem_cons, List.not_mem_nil, or_false, not_or] at hy'
  obtain ⟨a, b, c, d⟩ := hy'
  simp only [if_neg a, if_neg b, if_neg c, if_neg d]
  exact hm y hy
end
end Mine
end
section
open PySem PySem.W PyProof.Rows PySem.Calls PySem.Spec
namespace Mine
theorem cb2 {h₀ h : Heap} {L : Addr} {all news : List (Addr × Obj)} {a b : Addr × Obj} (N : News h₀ L h all) (ha : a ∈ all) (hb : b ∈ all) (sub : ∀ p ∈ news, p ∈ all) : News h₀ L h (a :: b :: news) := fun p hp => by
  rcases List.mem_cons.mp hp with rfl | hp
  · exact N _ ha
  · rcases List.mem_cons.mp hp with rfl | hp
    · exact N _ hb
    · exact N _ (sub _ hp)
set_option maxHeartbeats 8000000 in
theorem sub_ok {w : World} {mean : ExcName → Option Value} {mg mb : Str → Option Value} {dp un : Nat} {gd : Option (List Code)} {cn : Str} {cs : Scope} {a : Addr} {ccd : Value} {cl : List (Str × Addr)} {outer : List Env} {A₀ : Around} {base h₀ : Heap} {L : Addr} {m : Str → Option Value} {s : Shared} {Q E : Value → Shared → Prop}
    {name : Str} {t1 : Tok} {news : List (Addr × Obj)}
    (B : Below A₀ base outer h₀) (F : Fr h₀ L s.heap m) (X : (Mine.h0.heap_1_1 w.params).In h₀) (T : Top Mine.h0.view_1_2 (looseW Mine.h0.view_1_2 [Str.ofString "UNSET", Str.ofString "Limits", Str.ofString "_law_places"]) mean mg mb h₀) (hk : cs.kind = .function) (hd : dp + 8 < recursionLimit) (hu : un + 200 < cLine)
    (N : News h₀ L s.heap news)
    (ret : ∀ (e dx : Addr) (es : List DictEntry) (n : Nat) (tok : Tok) (u : Value) (h' : Heap) (tk' : Nat), Fr h₀ L h' m → News h₀ L h' ((dx, dictOf es n) :: (e, instObj 190 dx) :: news) → getL (Str.ofString "name") es = some (some (.str name tok)) → getL (Str.ofString "control") es = some (some u) → es.length ≤ 100 → (∀ p ∈ news, p.1 < dx) → @LT.lt Nat _ dx e → Q (.ref e) { s with heap := h', toks := tk' }) :
    wpAny (model PySem.Challenge.rw_pp0008_01.row.prog w) (ktrTop dp un gd cn cs L a ccd cl outer) (call (.ref 190) [.str name t1]) Q E s := by
  revert X
  k_fill
  intro X
  k_dflt (refine' call_cls ?k1 ?k2 ?k3 ?k4 ?k5 ?k6 ?_; (case k1 => k_asm); (case k2 => k_asm); (case k3 => k_asm); (case k4 => k_is); (case k5 => k_is); (case k6 => k_is); k_whole; intro x' d' h' F' N' l1 l2; (try k_lt l1); (try k_lt2 l2); (try k_sweep))
  k_dflt cell_enter
  refine' fields_n (x := Str.ofString "self") (specs := [(Str.ofString "name", .loc (Str.ofString "name")), (Str.ofString "params", .obj), (Str.ofString "result", .none), (Str.ofString "decls", .obj), (Str.ofString "stmts", .obj), (Str.ofString "handlers", .obj), (Str.ofString "ups", .int 0), (Str.ofString "operation", .str (Str.ofString "")), (Str.ofString "control", .obj), (Str.ofString "about", .none), (Str.ofString "told", .none)]) (news := news) 11 ?qX ?qF ?qN ?qx ?qa ?qb ?qH ?qsp ?qs ?qp ?qh ?qt ?qbig ?qk ?qxl ?qxd ?qf ?qz ?qsub ?qne ?qnews ?_
  case qF => k_asm
  case qN => k_asm
  case qx => exact rfl
  case qX => k_in
  case qa => k_mem
  case qb => k_mem
  case qH => exact FD.nil
  case qsp => exact rfl
  case qs => k_is
  case qp => k_is
  case qh => k_is
  case qt => repeat (first | exact List.forall_mem_nil _ | (refine List.forall_mem_cons.mpr ⟨by k_is, ?_⟩))
  case qbig => exact Top.nolimit (by k_asm)
  case qk => first | exact rfl | assumption
  case qxl => exact rfl
  case qxd => decide +kernel
  case qf => exact rfl
  case qz => first | exact Nat.le_of_ble_eq_true rfl | (simp only [List.length_cons, List.length_nil]; omega)
  case qsub => (intro p hp; repeat (first | exact hp | refine List.Mem.tail _ ?_))
  case qne => omega
  case qnews => first | exact all_ne (AllLt.mem' (by assumption)) (Nat.le_refl _) | exact fun p hp => Nat.ne_of_lt (AllLt.mem' (by assumption) p hp) | exact fun p hp => Nat.ne_of_lt ((by assumption : ∀ p ∈ news, p.1 < _) p hp) | (have h9 := (by assumption : _ ∧ AllLt _ news).2; exact fun p hp => Nat.ne_of_lt (AllLt.mem' h9 p hp))
  intro h1 es1 n1 tk1 kv1 kF1 kN1 fd1 ex1
  have kl1 := ex1.len
  simp only [List.length_cons, List.length_nil] at kl1
  simp only [List.drop_succ_cons, List.drop_zero]
  k_steps
  (with_reducible rename Fr _ _ _ _ => kF9); (with_reducible rename News _ _ _ _ => kN9)
  obtain ⟨v1, q1, e1⟩ := ex1.idx (a := Str.ofString "name") 0 rfl rfl
  obtain ⟨v2, q2, e2⟩ := ex1.idx (a := Str.ofString "control") 8 rfl rfl
  obtain rfl : Value.str name t1 = v1 := Option.some.inj e1
  exact ret x' d' es1 n1 t1 v2 _ _ kF9 (cb2 kN9 (.tail _ (.head _)) (.head _) (fun p hp => .tail _ (.tail _ hp))) (fd1.get q1) (fd1.get q2) (Nat.le_trans fd1.len (by rw [ex1.len]; decide)) (by first | assumption | exact AllLt.mem' (by assumption)) l2
set_option maxHeartbeats 8000000 in
theorem thing_ok {w : World} {mean : ExcName → Option Value} {mg mb : Str → Option Value} {dp un : Nat} {gd : Option (List Code)} {cn : Str} {cs : Scope} {a : Addr} {ccd : Value} {cl : List (Str × Addr)} {outer : List Env} {A₀ : Around} {base h₀ : Heap} {L : Addr} {m : Str → Option Value} {s : Shared} {Q E : Value → Shared → Prop}
    {sb fr : Addr} {news : List (Addr × Obj)}
    (B : Below A₀ base outer h₀) (F : Fr h₀ L s.heap m) (X : (Mine.h0.heap_1_1 w.params).In h₀) (T : Top Mine.h0.view_1_2 (looseW Mine.h0.view_1_2 [Str.ofString "UNSET", Str.ofString "Limits", Str.ofString "_law_places"]) mean mg mb h₀) (hk : cs.kind = .function) (hd : dp + 8 < recursionLimit) (hu : un + 200 < cLine)
    (N : News h₀ L s.heap news)
    (ret : ∀ (e dx : Addr) (es : List DictEntry) (n : Nat) (h' : Heap) (tk' : Nat), Fr h₀ L h' m → News h₀ L h' ((dx, dictOf es n) :: (e, instObj 157 dx) :: news) → getL (Str.ofString "sub") es = some (some (.ref sb)) → (∀ p ∈ news, p.1 < dx) → @LT.lt Nat _ dx e → Q (.ref e) { s with heap := h', toks := tk' }) :
    wpAny (model PySem.Challenge.rw_pp0008_01.row.prog w) (ktrTop dp un gd cn cs L a ccd cl outer) (call (.ref 157) [.ref sb, .ref fr]) Q E s := by
  revert X
  k_fill
  intro X
  k_dflt (refine' call_cls ?k1 ?k2 ?k3 ?k4 ?k5 ?k6 ?_; (case k1 => k_asm); (case k2 => k_asm); (case k3 => k_asm); (case k4 => k_is); (case k5 => k_is); (case k6 => k_is); k_whole; intro x' d' h' F' N' l1 l2; (try k_lt l1); (try k_lt2 l2); (try k_sweep))
  k_dflt cell_enter
  refine' fields_n (x := Str.ofString "self") (specs := [(Str.ofString "sub", .loc (Str.ofString "sub")), (Str.ofString "frame", .loc (Str.ofString "frame")), (Str.ofString "work", .none)]) (news := news) 3 ?qX ?qF ?qN ?qx ?qa ?qb ?qH ?qsp ?qs ?qp ?qh ?qt ?qbig ?qk ?qxl ?qxd ?qf ?qz ?qsub ?qne ?qnews ?_
  case qF => k_asm
  case qN => k_asm
  case qx => exact rfl
  case qX => k_in
  case qa => k_mem
  case qb => k_mem
  case qH => exact FD.nil
  case qsp => exact rfl
  case qs => k_is
  case qp => k_is
  case qh => k_is
  case qt => repeat (first | exact List.forall_mem_nil _ | (refine List.forall_mem_cons.mpr ⟨by k_is, ?_⟩))
  case qbig => exact Top.nolimit (by k_asm)
  case qk => first | exact rfl | assumption
  case qxl => exact rfl
  case qxd => decide +kernel
  case qf => exact rfl
  case qz => first | exact Nat.le_of_ble_eq_true rfl | (simp only [List.length_cons, List.length_nil]; omega)
  case qsub => (intro p hp; repeat (first | exact hp | refine List.Mem.tail _ ?_))
  case qne => omega
  case qnews => first | exact all_ne (AllLt.mem' (by assumption)) (Nat.le_refl _) | exact fun p hp => Nat.ne_of_lt (AllLt.mem' (by assumption) p hp) | exact fun p hp => Nat.ne_of_lt ((by assumption : ∀ p ∈ news, p.1 < _) p hp) | (have h9 := (by assumption : _ ∧ AllLt _ news).2; exact fun p hp => Nat.ne_of_lt (AllLt.mem' h9 p hp))
  intro h1 es1 n1 tk1 kv1 kF1 kN1 fd1 ex1
  have kl1 := ex1.len
  simp only [List.length_cons, List.length_nil] at kl1
  simp only [List.drop_succ_cons, List.drop_zero]
  k_steps
  (with_reducible rename Fr _ _ _ _ => kF9); (with_reducible rename News _ _ _ _ => kN9)
  obtain ⟨v1, q1, e1⟩ := ex1.idx (a := Str.ofString "sub") 0 rfl rfl
  obtain rfl : Value.ref sb = v1 := Option.some.inj e1
  exact ret x' d' es1 n1 _ _ kF9 (cb2 kN9 (.tail _ (.head _)) (.head _) (fun p hp => .tail _ (.tail _ hp))) (fd1.get q1) (by first | assumption | exact AllLt.mem' (by assumption)) l2
section
variable {w : World} {A : Around} {E : Value → Shared → Prop} {s : Shared} {h₀ : Heap} {L : Addr} {m : Str → Option Value} {news : List (Addr × Obj)} {i : Nat}
theorem list_plc {Q : Value → Shared → Prop} (hi : i < 3) (F : Fr h₀ L s.heap m) (N : News h₀ L s.heap news) (X : (Mine.h0.heap_1_1 w.params).In h₀)
    (h : ∀ D c h', Fr h₀ L h' m → News h₀ L h' ((D, PySem.W.listOf (plc i).toArray c) :: news) → (∀ q ∈ news, q.1 < D) → Q (.ref D) { s with heap := h' }) :
    wpAny (model PySem.Challenge.rw_pp0008_01.row.prog w) A (call (.type "list") [.ref (plcA i)]) Q E s := by
  obtain ⟨p1, p2, p3⟩ := places_in (X.keeps F.keep)
  rcases three_cases hi with rfl | rfl | rfl
  · exact list_copyK F N p1 h (by rw [sizeLine_eq]; exact Nat.le_of_ble_eq_true rfl)
  · exact list_copyK F N p2 h (by rw [sizeLine_eq]; exact Nat.le_of_ble_eq_true rfl)
  · exact list_copyK F N p3 h (by rw [sizeLine_eq]; exact Nat.le_of_ble_eq_true rfl)
end
end Mine
end
section
open PySem PySem.W PyProof.Rows PySem.Calls PySem.Spec
namespace Mine
local macro_rules | `(tactic| k_lt $h:ident) => `(tactic| (replace $h := allLt_of $h; simp only [AllLt, and_true] at $h:ident; (repeat (have hq' := And.left $h; replace $h := And.right $h))))
local macro_rules | `(tactic| k_ne) => `(tactic| first | (refine neN (Nat.ne_of_gt ?_); (try dsimp only); assumption) | (refine neN (Nat.ne_of_lt ?_); (try dsimp only); assumption) | (refine neN (Ne.symm ?_); (try dsimp only); assumption))
local macro_rules | `(tactic| walk_at "call ref") => `(tactic| (k_here; (with_reducible show wpAny _ _ (call (Value.ref 334) _) _ _ _); k_dflt (refine' take_upd (by k_asm) (by k_asm) (by k_asm) (by k_asm) (by first | rfl | assumption) (by ktr_room) (by ktr_units) (by k_asm) (by k_updF) (by k_mem) (by assumption) (by assumption) (by assumption) (by assumption) (by omega) (by omega) (by decide) (by decide) ?_; intro _ _ _ _ _ _ _ _ _ _ _)))
local macro_rules | `(tactic| walk_at "binaryOp Add str str") => `(tactic| (k_here; (with_reducible show wpAny _ _ (binaryOp Operator.Add (Value.str _ _) (Value.str _ _)) _ _ _); (refine add_open (by assumption) ?_); intro _ _))
local macro_rules | `(tactic| walk_at "call ref") => `(tactic| (k_here; (with_reducible show wpAny _ _ (call (Value.ref 190) _) _ _ _); k_dflt (refine' sub_ok (by k_asm) (by k_asm) (by k_asm) (by k_asm) (by first | rfl | assumption) (by ktr_room) (by ktr_units) (by k_asm) ?_; intro _ dx' _ _ _ _ _ _ _ _ _ _ _ hlt' _; have hRs' : ∀ r ∈ $(Lean.mkIdent `R), @LT.lt Nat _ r.1 dx' := fun r hr => hlt' r (by repeat (first | exact List.mem_append_left _ hr | refine List.Mem.tail _ ?_)); have hAb' : Above $(Lean.mkIdent `I) $(Lean.mkIdent `bx) $(Lean.mkIdent `ld) $(Lean.mkIdent `O) $(Lean.mkIdent `nin) $(Lean.mkIdent `nout) dx' := ⟨hlt' ($(Lean.mkIdent `I), _) (by k_mem), hlt' ($(Lean.mkIdent `bx), _) (by k_mem), hlt' ($(Lean.mkIdent `ld), _) (by k_mem), hlt' ($(Lean.mkIdent `O), _) (by k_mem), hlt' ($(Lean.mkIdent `nin), _) (by k_mem), hlt' ($(Lean.mkIdent `nout), _) (by k_mem)⟩; (try k_lt hlt'))))
local macro_rules | `(tactic| walk_at "call ref") => `(tactic| (k_here; (with_reducible show wpAny _ _ (call (Value.ref 157) _) _ _ _); k_dflt (refine' thing_ok (by k_asm) (by k_asm) (by k_asm) (by k_asm) (by first | rfl | assumption) (by ktr_room) (by ktr_units) (by k_asm) ?_; intro _ _ _ _ _ _ _ _ _ hlt' _; (try k_lt hlt'))))
local macro_rules | `(tactic| walk_at "setAttr ref") => `(tactic| (k_here; k_dflt (refine' set_ab (by k_asm) (by k_asm) (by k_asm) (by k_inst) (by exact rfl) (by k_is) (by k_is) (by k_is) (by k_is) (by assumption) (by k_updF) (by assumption) ?_); intro _ _ _ _ N' _ _ e2'; have hnm' := (e2' (Str.ofString "name") (by decide +kernel)).trans (by assumption); (try dsimp only at N')))
local macro_rules | `(tactic| walk_at "subscriptTail Name Name ref str") => `(tactic| (k_here; (with_reducible show wpAny _ _ (subscriptTail _ _ (Value.ref 323) (Value.str _ _)) _ _ _); k_dflt (refine' places_item (by assumption) (by k_asm) (by k_asm) ?_)))
local macro_rules | `(tactic| walk_at "call type:list") => `(tactic| (k_here; k_dflt (refine' list_plc (by assumption) (by k_asm) (by k_asm) (by k_asm) ?_); intro _ _ _ _ _ l1; (try k_lt l1)))
local macro_rules | `(tactic| walk_at "setItem ref str") => `(tactic| (k_here; k_dflt (refine' kda_set (knd := PySem.strKind _ _) (by k_asm) (by k_asm) (by k_updF) (by assumption) (strKind_is _ _ _ _) (by (show _ ≤ (16777216 : Nat); omega)) ?_); intro _ _ _ N' _; (try dsimp only at N')))
theorem dpos {r : Int} : decide (0 < r.toNat) = decide (0 < r) := decide_eq_decide.mpr (by omega)
local macro_rules | `(tactic| walk_at "setItem ref ref") => `(tactic| (k_here; k_dflt (refine' set_laid (k := Int.toNat _) (by k_asm) (by k_asm) (by k_updF) (by assumption) (by (intro _ hp; repeat (first | exact List.mem_append_right _ hp | refine List.Mem.tail _ ?_))) (by assumption) (by k_mem) (by assumption) (by assumption) (by assumption) (by omega) (by ktr_units) dpos ?_); intro _ _ _ _ N' _ _; (try dsimp only at N')))
set_option maxHeartbeats 8000000 in
theorem words_ok {w : World} {mean : ExcName → Option Value} {mg mb : Str → Option Value} {dp un : Nat} {gd : Option (List Code)} {cn : Str} {cs : Scope} {a : Addr} {ccd : Value} {cl : List (Str × Addr)} {outer : List Env} {base g : Heap} {L L' : Addr} {m : Str → Option Value} {s : Shared} {Q : Flow → Shared → Prop} {E : Value → Shared → Prop}
    {st : Stmt} {fd : FuncData} {bx c ld nin nout O inn out T D : Addr} {S₀ R S : List (Addr × Obj)} {K p2 : Nat} {nmax : Int} {lay : Nat → Nat → Option Nat} {vs : List Value} {ns : List Int} {nc : Nat}
    {ob ol oo oin oout : Obj} {tb : Tok} {n : Int} {xs : List (List (Int ⊕ Str) × Addr × Value)} {ops kin kout : List (Str × Value)} {th : Nat → Nat → Addr} {es eso esi : List DictEntry} {nt nso nsi : Nat} {di do_ : Addr}
    (hst : wordsFor w.params = some st) (hfd : lineData w.params = some fd)
    (B : Below (ktrTop dp un gd cn cs L a ccd cl outer) base (envX cn cs L a ccd cl :: outer) g) (F : Fr g L' s.heap m) (X : (Mine.h0.heap_1_1 w.params).In g) (T9 : Top Mine.h0.view_1_2 (looseW Mine.h0.view_1_2 [Str.ofString "UNSET", Str.ofString "Limits", Str.ofString "_law_places"]) mean mg mb g) (hk : cs.kind = .function) (hd : dp + 20 < recursionLimit) (hu : un + 400 < cLine)
    (N : News g L' s.heap ((bx, ob) :: (ld, ol) :: (O, oo) :: (nin, oin) :: (nout, oout) :: (R ++ S)))
    (H : WD PySem.Challenge.rw_pp0008_01.row.prog w p2 bx c ld nin nout O S₀ R K 0 nmax lay ob ol oo oin oout S tb n xs ops kin kout th) (M : WM m bx ld inn out T K)
    (hp2 : p2 < 2) (hK : K < 3) (hnm : nmax < 900) (hI : IntsAre vs ns) (hln : ns.length ≤ 60) (hc : (c, W.listOf vs.toArray nc) ∈ S₀)
    (hlb : (bx == sysModules) = false) (hll : (ld == sysModules) = false) (hlO : (O == sysModules) = false) (hli : (nin == sysModules) = false) (hlo : (nout == sysModules) = false)
    (o1 : @LT.lt Nat _ bx nout) (o2 : @LT.lt Nat _ nout nin) (o3 : @LT.lt Nat _ nin ld) (o4 : @LT.lt Nat _ ld O)
    (hR : ∀ r ∈ R, r.1 ≠ bx ∧ r.1 ≠ ld ∧ r.1 ≠ O ∧ r.1 ≠ nin ∧ r.1 ≠ nout) (hT : (T, instObj 296 D) ∈ R ++ S₀) (hD : (D, dictOf es nt) ∈ R ++ S₀) (hop : getL (Str.ofString "operations") es = some (some (.ref O)))
    (hinn : (inn, instObj 211 di) ∈ S₀) (hdi : (di, dictOf esi nsi) ∈ S₀) (hnames : getL (Str.ofString "names") esi = some (some (.ref nin)))
    (hout : (out, instObj 211 do_) ∈ S₀) (hdo : (do_, dictOf eso nso) ∈ S₀) (hnames' : getL (Str.ofString "names") eso = some (some (.ref nout)))
    (hE : PassesOwn (model PySem.Challenge.rw_pp0008_01.row.prog w) ((ktrTop dp un gd cn cs L a ccd cl outer).deeper (envOf (Str.ofString "_law_line") fd.scope L' 341 (.ref 340))) (envOf (Str.ofString "_law_line") fd.scope L' 341 (.ref 340)) E)
    (ret : ∀ (m' : Str → Option Value) (h' : Heap) (tk' : Nat) (lay' : Nat → Nat → Option Nat) (ob' ol' oo' oin' oout' : Obj) (S' : List (Addr × Obj)) (tb' : Tok) (n' : Int) (xs' : List (List (Int ⊕ Str) × Addr × Value)) (ops' kin' kout' : List (Str × Value)) (th' : Nat → Nat → Addr),
      WD PySem.Challenge.rw_pp0008_01.row.prog w p2 bx c ld nin nout O S₀ R K 3 nmax lay' ob' ol' oo' oin' oout' S' tb' n' xs' ops' kin' kout' th' → (∀ x w, x < K → lay' x w = lay x w) →
      (∀ y, y ∉ [Str.ofString "word", Str.ofString "way", Str.ofString "sub", Str.ofString "frame"] → m' y = m y) → Fr g L' h' m' → News g L' h' ((bx, ob') :: (ld, ol') :: (O, oo') :: (nin, oin') :: (nout, oout') :: (R ++ S')) → Q .next { s with heap := h', toks := tk' }) :
    wpAny (model PySem.Challenge.rw_pp0008_01.row.prog w) ((ktrTop dp un gd cn cs L a ccd cl outer).deeper (envOf (Str.ofString "_law_line") fd.scope L' 341 (.ref 340))) (exec st (envOf (Str.ofString "_law_line") fd.scope L' 341 (.ref 340))) Q E s := by
  have e : some st = some _ := hst.symm.trans rfl
  injection e with e
  subst e
  have e : some fd = some _ := hfd.symm.trans rfl
  injection e with e
  subst e
  clear hst hfd
  dsimp only
  revert X
  k_fill
  intro X
  (with_unfolding_all refine' For_invVF F ?k1 ?k2 ?_ (hE := hE); (case k1 => exact rfl); (case k2 => exact rfl); k_whole)
  (first | (k_unfold; (try dsimp only)) | (k_end; wrow_close) | walk1 | (dsimp only; walk1) | (leave1; walk_say "STEP leave1"; try dsimp only) | fail "no step")
  refine' tup_J (vs := [.str (Str.ofString "far") 755, .str (Str.ofString "one") 756, .str (Str.ofString "two") 757]) (JW PySem.Challenge.rw_pp0008_01.row.prog w p2 bx c ld nin nout O S₀ R K nmax lay m) rfl ?hl ?F ?N ?hj ?turn ?done
  case hl => exact ⟨_, X 322 _ rfl, rfl, _, rfl⟩
  case F => k_asm
  case N => k_asm
  case hj => exact ⟨fun _ _ => rfl, _, _, _, _, _, _, _, _, _, _, _, _, _, _, rfl, H, fun _ _ _ => rfl⟩
  case done =>
    rintro m₁ nx h tk ⟨hm, lay', ob', ol', oo', oin', oout', S', tb', n', xs', ops', kin', kout', th', rfl, H', hl'⟩ F' N'
    exact ret _ _ _ _ _ _ _ _ _ _ _ _ _ _ _ _ _ H' hl' hm F' N'
  case turn =>
    rintro I i v m₁ nx h tk oI hv ⟨hm, lay', ob', ol', oo', oin', oout', S', tb', n', xs', ops', kin', kout', th', rfl, H', hl'⟩ hoff F' N'
    have hi : i < 3 := by
      rcases Nat.lt_or_ge i 3 with h | h
      · exact h
      · rw [List.getElem?_eq_none (by simpa using h)] at hv; cases hv
    obtain ⟨tv, rfl⟩ : ∃ tv, v = .str (wn i) tv := by
      rcases three_cases hi with rfl | rfl | rfl
      · exact ⟨_, (Option.some.inj hv).symm⟩
      · exact ⟨_, (Option.some.inj hv).symm⟩
      · exact ⟨_, (Option.some.inj hv).symm⟩
    clear hv
    have n1 : m₁ (Str.ofString "box") = some (.ref bx) := (hm _ (by decide +kernel)).trans M.box
    have n2 : m₁ (Str.ofString "laid") = some (.ref ld) := (hm _ (by decide +kernel)).trans M.laid
    have n3 : m₁ (Str.ofString "inner") = some (.ref inn) := (hm _ (by decide +kernel)).trans M.inner
    have n4 : m₁ (Str.ofString "outer") = some (.ref out) := (hm _ (by decide +kernel)).trans M.outer
    have n5 : m₁ (Str.ofString "made") = some (.ref T) := (hm _ (by decide +kernel)).trans M.made
    obtain ⟨ta, n6⟩ := M.at_
    have n6 : m₁ (Str.ofString "at") = some (.int (K : Nat) ta) := (hm _ (by decide +kernel)).trans n6
    have f1 := H'.hob
    have f2 := H'.n0
    have f3 : n' < 960 := by have := H'.n1; omega
    have lift : ∀ p ∈ R ++ S₀, p ∈ R ++ S' := fun p hp => (List.mem_append.mp hp).elim (fun h => List.mem_append_left _ h) (fun h => List.mem_append_right _ (H'.sub p h))
    have f4 := lift _ (List.mem_append_right _ hc)
    have f5 : ∀ p ∈ R ++ S', p.1 ≠ bx := fun p hp => (List.mem_append.mp hp).elim (fun h => (hR p h).1) (fun h => (H'.off p h).1.1)
    have f6 : ∀ p ∈ R ++ S', p.1 ≠ ld := fun p hp => (List.mem_append.mp hp).elim (fun h => (hR p h).2.1) (fun h => (H'.off p h).1.2.1)
    have f7 : ∀ p ∈ R ++ S', p.1 ≠ O := fun p hp => (List.mem_append.mp hp).elim (fun h => (hR p h).2.2.1) (fun h => (H'.off p h).1.2.2.1)
    have f8 : ∀ p ∈ R ++ S', p.1 ≠ nin := fun p hp => (List.mem_append.mp hp).elim (fun h => (hR p h).2.2.2.1) (fun h => (H'.off p h).1.2.2.2.1)
    have f9 : ∀ p ∈ R ++ S', p.1 ≠ nout := fun p hp => (List.mem_append.mp hp).elim (fun h => (hR p h).2.2.2.2) (fun h => (H'.off p h).1.2.2.2.2)
    have g1 := lift _ hT
    have g2 := lift _ hD
    have g3 := lift _ (List.mem_append_right _ hinn)
    have g4 := lift _ (List.mem_append_right _ hdi)
    have g5 := lift _ (List.mem_append_right _ hout)
    have g6 := lift _ (List.mem_append_right _ hdo)
    clear lift
    have q1 : @LT.lt Nat _ bx nin := Nat.lt_trans o1 o2
    have q2 : @LT.lt Nat _ bx ld := Nat.lt_trans q1 o3
    have q3 : @LT.lt Nat _ bx O := Nat.lt_trans q2 o4
    have q4 : @LT.lt Nat _ nout ld := Nat.lt_trans o2 o3
    have q5 : @LT.lt Nat _ nout O := Nat.lt_trans q4 o4
    have q6 : @LT.lt Nat _ nin O := Nat.lt_trans o3 o4
    have i1 : @Ne Nat bx I := hoff _ (.head _)
    have i2 : @Ne Nat ld I := hoff _ (.tail _ (.head _))
    have i3 : @Ne Nat O I := hoff _ (.tail _ (.tail _ (.head _)))
    have i4 : @Ne Nat nin I := hoff _ (.tail _ (.tail _ (.tail _ (.head _))))
    have i5 : @Ne Nat nout I := hoff _ (.tail _ (.tail _ (.tail _ (.tail _ (.head _)))))
    have i7 : ∀ p ∈ R ++ S', p.1 ≠ I := fun p hp => hoff _ (.tail _ (.tail _ (.tail _ (.tail _ (.tail _ hp)))))
    have i6 : ∀ p ∈ S', p.1 ≠ I := fun p hp => i7 _ (List.mem_append_right _ hp)
    have iR : ∀ p ∈ R, p.1 ≠ I := fun p hp => i7 _ (List.mem_append_left _ hp)
    have j1 := H'.hoo
    have j2 := H'.hop
    have j3 := H'.hin
    have j4 := H'.hkin
    have j5 := H'.hout
    have j6 := H'.hkout
    have j7 := H'.hol
    have j8 := H'.hls
    have j9 := H'.hxs
    have jn := H'.new K i hK hi (.inr ⟨rfl, Nat.le_refl _⟩)
    have w1 := w1_ hi
    have w2 := w2_ hi hK
    iterate 17 (first | (k_unfold; (try dsimp only)) | (k_end; wrow_close) | walk1 | (dsimp only; walk1) | (leave1; walk_say "STEP leave1"; try dsimp only) | fail "no step")
    · k_steps
      (with_reducible rename Fr _ _ _ _ => kF9); (with_reducible rename News _ _ _ _ => kN9)
      refine turnJ_end (.inr rfl) kF9 kN9 (jw_skip H' hl' iR i1 i2 i3 i4 i5 i6 (miss1 hm) (by assumption))
    k_steps
    all_goals ((with_reducible rename Fr _ _ _ _ => kF9); (with_reducible rename News _ _ _ _ => kN9))
    · refine turnJ_end (.inl rfl) kF9 (reo6 kN9) (jw_end H' hl' hK hi hp2 iR i1 i2 i3 i4 i5 i6 (nm_eq hK) (miss4 hm) ?s ?o (by assumption) (by assumption) (by simp) (.tail _ (.tail _ (.head _))) (by assumption) (by assumption) (by assumption) (by assumption) (.inr (.inl ⟨by omega, rfl, rfl⟩)) fun _ => ⟨_, _, _, _, _, _, _, _, _, _, .tail _ (.head _), .head _, by assumption, .tail _ (.tail _ (.tail _ (.tail _ (.tail _ (.head _))))), .tail _ (.tail _ (.tail _ (.tail _ (.head _)))), by assumption, by assumption, .tail _ (.tail _ (.tail _ (.head _)))⟩)
      case s => (intro p hp; repeat (first | exact hp | refine List.Mem.tail _ ?_))
      case o => (intro p hp; (iterate 6 (rcases List.mem_cons.mp hp with rfl | hp; · exact .inr ⟨Above.up (by assumption) (by first | exact Nat.le_refl _ | exact Nat.le_of_lt (by assumption) | omega), fun r hr => Nat.lt_of_lt_of_le (by first | (apply_assumption; exact hr) | exact hr) (by first | exact Nat.le_refl _ | exact Nat.le_of_lt (by assumption) | omega)⟩)); exact .inl hp)
    · refine turnJ_end (.inl rfl) kF9 (reo6 kN9) (jw_end H' hl' hK hi hp2 iR i1 i2 i3 i4 i5 i6 (nm_eq hK) (miss4 hm) ?s ?o (by assumption) (by assumption) (by simp) (.tail _ (.tail _ (.head _))) (by assumption) (by assumption) (by assumption) (by assumption) (.inr (.inr ⟨by omega, rfl, rfl⟩)) fun _ => ⟨_, _, _, _, _, _, _, _, _, _, .tail _ (.head _), .head _, by assumption, .tail _ (.tail _ (.tail _ (.tail _ (.tail _ (.head _))))), .tail _ (.tail _ (.tail _ (.tail _ (.head _)))), by assumption, by assumption, .tail _ (.tail _ (.tail _ (.head _)))⟩)
      case s => (intro p hp; repeat (first | exact hp | refine List.Mem.tail _ ?_))
      case o => (intro p hp; (iterate 6 (rcases List.mem_cons.mp hp with rfl | hp; · exact .inr ⟨Above.up (by assumption) (by first | exact Nat.le_refl _ | exact Nat.le_of_lt (by assumption) | omega), fun r hr => Nat.lt_of_lt_of_le (by first | (apply_assumption; exact hr) | exact hr) (by first | exact Nat.le_refl _ | exact Nat.le_of_lt (by assumption) | omega)⟩)); exact .inl hp)
    · refine turnJ_end (.inl rfl) kF9 (reo4 kN9) (jw_end (te := 0) H' hl' hK hi hp2 iR i1 i2 i3 i4 i5 i6 (nm_eq hK) (miss3 hm) ?s ?o (by assumption) (by assumption) (by simp) (.head _) (by assumption) (by assumption) (by assumption) (by assumption) (.inl ⟨by omega, rfl, rfl⟩) fun h => absurd h (by omega))
      case s => (intro p hp; repeat (first | exact hp | refine List.Mem.tail _ ?_))
      case o => (intro p hp; (iterate 4 (rcases List.mem_cons.mp hp with rfl | hp; · exact .inr ⟨Above.up (by assumption) (by first | exact Nat.le_refl _ | exact Nat.le_of_lt (by assumption) | omega), fun r hr => Nat.lt_of_lt_of_le (by first | (apply_assumption; exact hr) | exact hr) (by first | exact Nat.le_refl _ | exact Nat.le_of_lt (by assumption) | omega)⟩)); exact .inl hp)
end Mine
end
section
open PySem PySem.W PyProof.Rows PySem.Calls PySem.Spec
namespace Mine
section
variable {prog : Program} {wo : World} {p2 : Nat} {bx c ld nin nout O I : Addr} {S₀ R S : List (Addr × Obj)} {K : Nat} {nmax : Int} {lay : Nat → Nat → Option Nat}
  {ob ol oo oin oout : Obj} {tb : Tok} {n : Int} {xs : List (List (Int ⊕ Str) × Addr × Value)} {ops kin kout : List (Str × Value)} {th : Nat → Nat → Addr}
theorem WD.init (off : ∀ p ∈ S, (p.1 ≠ bx ∧ p.1 ≠ ld ∧ p.1 ≠ O ∧ p.1 ≠ nin ∧ p.1 ≠ nout) ∧ ∀ r ∈ R, p.1 ≠ r.1)
    (hob : ob.IsDictOf (PySem.strKind prog wo) [(Str.ofString "cells", Value.ref c), (Str.ofString "at", Value.int n tb)]) (n0 : 0 ≤ n) (n1 : n ≤ nmax)
    (hol : ol.IsDictOf (PySem.strKind prog wo) []) (hoo : oo.IsDictOf (PySem.strKind prog wo) []) (hin : oin.IsDictOf (PySem.strKind prog wo) []) (hout : oout.IsDictOf (PySem.strKind prog wo) []) :
    WD prog wo 0 bx c ld nin nout O S R 0 0 nmax (fun _ _ => none) ob ol oo oin oout S tb n [] [] [] [] (fun _ _ => 0) where
  sub := fun _ h => h
  off := off
  hob := hob
  n0 := n0
  n1 := by omega
  hol := LaidOf.nil hol
  hls := fun t w _ _ => rfl
  hxs := Nat.zero_le _
  hoo := hoo
  hop := Nat.zero_le _
  hin := hin
  hkin := Nat.zero_le _
  hout := hout
  hkout := Nat.zero_le _
  vop := fun w _ => ⟨0, rfl⟩
  vin := fun x w _ _ => rfl
  vout := fun x w _ _ => rfl
  thing := fun x w k _ _ h => nomatch h
  new := fun _ _ _ _ _ => rfl
theorem WD.next {p2' : Nat} {O' : Addr} {ob2 oo' : Obj} {ops' : List (Str × Value)} {S2 R2 : List (Addr × Obj)} {tb2 : Tok} {n2 nmax2 : Int}
    (H : WD prog wo p2 bx c ld nin nout O S₀ R K 3 nmax lay ob ol oo oin oout S tb n xs ops kin kout th)
    (sub : ∀ p ∈ S, p ∈ S2) (off : ∀ p ∈ S2, (p.1 ≠ bx ∧ p.1 ≠ ld ∧ p.1 ≠ O' ∧ p.1 ≠ nin ∧ p.1 ≠ nout) ∧ ∀ r ∈ R2, p.1 ≠ r.1)
    (hob : ob2.IsDictOf (PySem.strKind prog wo) [(Str.ofString "cells", Value.ref c), (Str.ofString "at", Value.int n2 tb2)]) (n0 : 0 ≤ n2) (n1 : n2 ≤ nmax2)
    (hoo : oo'.IsDictOf (PySem.strKind prog wo) ops') (hop : ops'.length ≤ 3 * (K + 1))
    (vop : ∀ w, w < 3 → ∃ t, valueAt ops' (wn w) = (near p2' lay w (K + 1)).map fun x => Value.str (nm x w) t) :
    WD prog wo p2' bx c ld nin nout O' S2 R2 (K + 1) 0 nmax2 lay ob2 ol oo' oin oout S2 tb2 n2 xs ops' kin kout th where
  sub := fun _ h => h
  off := off
  hob := hob
  n0 := n0
  n1 := by omega
  hol := H.hol.mono sub
  hls := H.hls
  hxs := by have := H.hxs; omega
  hoo := hoo
  hop := by omega
  hin := H.hin
  hkin := by have := H.hkin; omega
  hout := H.hout
  hkout := by have := H.hkout; omega
  vop := vop
  vin := H.vin
  vout := H.vout
  thing := fun x w k hx hw hk h0 => by
    obtain ⟨dt, et, nt, sb, ds, eb, ns, ct, nc, t', h1, h2, h3, h4, h5, h6, h7, h8⟩ := H.thing x w k hx hw hk h0
    exact ⟨dt, et, nt, sb, ds, eb, ns, ct, nc, t', sub _ h1, sub _ h2, h3, sub _ h4, sub _ h5, h6, h7, sub _ h8⟩
  new := fun x w hx hw h => H.new x w hx hw (.inl (by omega))
/-- a type that the line has finished -/
structure TyD (prog : Program) (wo : World) (p2 : Nat) (lay : Nat → Nat → Option Nat) (S : List (Addr × Obj)) (k : Nat) (T D O : Addr) (es : List DictEntry) (nD : Nat) (oo : Obj) (ops : List (Str × Value)) : Prop where
  ty : (T, instObj 296 D) ∈ S
  di : (D, dictOf es nD) ∈ S
  fs : TyF es O
  num : ∃ t, getL (Str.ofString "number") es = some (some (.int (80 + (k : Nat) : Int) t))
  om : (O, oo) ∈ S
  hoo : oo.IsDictOf (PySem.strKind prog wo) ops
  hop : ops.length ≤ 12
  lo : (O == sysModules) = false
  vop : ∀ w, w < 3 → ∃ t, valueAt ops (wn w) = (near p2 lay w k).map fun x => Value.str (nm x w) t
theorem TyD.mono {p2 p2' k : Nat} {lay lay' : Nat → Nat → Option Nat} {S S' : List (Addr × Obj)} {T D O : Addr} {es : List DictEntry} {nD : Nat} {oo : Obj} {ops : List (Str × Value)} (H : TyD prog wo p2 lay S k T D O es nD oo ops) (sub : ∀ p ∈ S, p ∈ S')
    (hn : ∀ w, w < 3 → near p2' lay' w k = near p2 lay w k) : TyD prog wo p2' lay' S' k T D O es nD oo ops :=
  ⟨sub _ H.ty, sub _ H.di, H.fs, H.num, sub _ H.om, H.hoo, H.hop, H.lo, fun w hw => by rw [hn w hw]; exact H.vop w hw⟩
theorem TyD.child {p2 p2' k : Nat} {T D : Addr} {es : List DictEntry} {nD : Nat} (H : TyD prog wo p2 lay S k T D O es nD oo ops) {q : Nat} (hq : q < 3) (hp : p2' < 2) (hpar : parN p2' q = some k) (hnew : ∀ w, w < 3 → lay q w = none) (hn : ∀ w, w < 3 → near p2' lay w k = near p2 lay w k) :
    ∀ w, w < 3 → ∃ t, valueAt ops (wn w) = (near p2' lay w q).map fun x => Value.str (nm x w) t := by
  intro w hw
  obtain ⟨t, h⟩ := H.vop w hw
  refine ⟨t, ?_⟩
  rw [h, near_miss hq hp (by rw [hnew w hw]; rfl), hpar]
  show _ = Option.map _ (near p2' lay w k)
  rw [hn w hw]
end
end Mine
end
section
open PySem PySem.W PyProof.Rows PySem.Calls PySem.Spec
namespace Mine
theorem unr9 {h₀ h' : Heap} {L I : Addr} {it : Obj} {rest : (Str → Option Value) → List (Addr × Obj) → Prop} {s₁ : Shared} {tk : Nat} {m' : Str → Option Value} {a1 a2 a3 a4 a5 a6 a7 a8 : Addr × Obj} {S : List (Addr × Obj)}
    (F : Fr h₀ L h' m') (N : News h₀ L h' (a1 :: a2 :: a3 :: a4 :: a5 :: a6 :: a7 :: a8 :: (I, it) :: S)) (h1 : @Ne Nat a1.1 I) (h2 : @Ne Nat a2.1 I) (h3 : @Ne Nat a3.1 I) (h4 : @Ne Nat a4.1 I) (h5 : @Ne Nat a5.1 I) (h6 : @Ne Nat a6.1 I) (h7 : @Ne Nat a7.1 I) (h8 : @Ne Nat a8.1 I) (hS : ∀ p ∈ S, p.1 ≠ I)
    (r : rest m' (a1 :: a2 :: a3 :: a4 :: a5 :: a6 :: a7 :: a8 :: S)) : UnrEnd h₀ L s₁ I it rest { s₁ with heap := h', toks := tk } := by
  refine UnrEnd.intro F N _ (fun p hp => ?_) (fun p hp => ?_) r
  · simp only [List.mem_cons] at hp ⊢
    rcases hp with h | h | h | h | h | h | h | h | h | h <;> simp only [h, true_or, or_true]
  · simp only [List.mem_cons] at hp
    rcases hp with rfl | rfl | rfl | rfl | rfl | rfl | rfl | rfl | h
    · exact h1
    · exact h2
    · exact h3
    · exact h4
    · exact h5
    · exact h6
    · exact h7
    · exact h8
    · exact hS p h
theorem reoN {h₀ h : Heap} {L : Addr} {x1 x2 x3 i a1 a2 a3 a4 a5 a6 a7 a8 : Addr × Obj} {S : List (Addr × Obj)} (N : News h₀ L h (x1 :: x2 :: x3 :: i :: a1 :: a2 :: a3 :: a4 :: a5 :: a6 :: a7 :: a8 :: S)) : News h₀ L h (x1 :: x2 :: x3 :: a1 :: a2 :: a3 :: a4 :: a5 :: a6 :: a7 :: a8 :: i :: S) := fun p hp => N p (by
  simp only [List.mem_cons] at hp ⊢
  rcases hp with h | h | h | h | h | h | h | h | h | h | h | h | h <;> simp only [h, true_or, or_true])
theorem near_p2 {p2 p2' w t : Nat} {lay : Nat → Nat → Option Nat} (ht : t < 2) : near p2 lay w t = near p2' lay w t := by
  match t, ht with
  | 0, _ => rfl
  | 1, _ => rfl
theorem near_keep {p2 p2' w t K : Nat} {lay lay' : Nat → Nat → Option Nat} (hp : p2 < 2) (ht : t < 2) (hk : t < K) (h : ∀ x w, x < K → lay' x w = lay x w) : near p2' lay' w t = near p2 lay w t := by
  rw [near_p2 (p2 := p2') (p2' := p2) ht]
  exact near_congr hp (by omega) fun x hx => h x w (by omega)
section
variable {bx nout nin tl pl ld I D O x : Nat} (o1 : bx < nout) (o2 : nout < nin) (o3 : nin < tl) (o4 : tl < pl) (o5 : pl < ld) (o6 : ld < I) (o7 : I < D) (o8 : D < O)
include o1 o2 o3 o4 o5 o6 o7 o8
theorem keyR : ((tl ≠ bx ∧ tl ≠ ld ∧ tl ≠ O ∧ tl ≠ nin ∧ tl ≠ nout) ∧ (pl ≠ bx ∧ pl ≠ ld ∧ pl ≠ O ∧ pl ≠ nin ∧ pl ≠ nout)) ∧ ((D ≠ bx ∧ D ≠ ld ∧ D ≠ O ∧ D ≠ nin ∧ D ≠ nout) ∧ (I ≠ bx ∧ I ≠ ld ∧ I ≠ O ∧ I ≠ nin ∧ I ≠ nout)) := by
  have h1 := Nat.lt_trans o2 o3
  have h2 := Nat.lt_trans o1 h1
  have h3 := Nat.lt_trans o4 o5
  have h4 := Nat.lt_trans h3 o6
  have h5 := Nat.lt_trans h4 o7
  have h6 := Nat.lt_trans o6 o7
  have h7 := Nat.lt_trans o7 o8
  have h8 := Nat.lt_trans o5 o6
  have lo : ∀ {y z : Nat}, y < z → y ≠ z := Nat.ne_of_lt
  have hi : ∀ {y z : Nat}, z < y → y ≠ z := Nat.ne_of_gt
  exact ⟨⟨⟨hi h2, lo h3, lo (Nat.lt_trans h5 o8), hi o3, hi h1⟩, ⟨hi (Nat.lt_trans h2 o4), lo o5, lo (Nat.lt_trans (Nat.lt_trans h8 o7) o8), hi (Nat.lt_trans o3 o4), hi (Nat.lt_trans h1 o4)⟩⟩,
    ⟨hi (Nat.lt_trans h2 h5), hi h6, lo o8, hi (Nat.lt_trans o3 h5), hi (Nat.lt_trans h1 h5)⟩, ⟨hi (Nat.lt_trans h2 h4), hi o6, lo h7, hi (Nat.lt_trans o3 h4), hi (Nat.lt_trans h1 h4)⟩⟩
/-- an address that came behind the laid dict and is none of the turn's own -/
theorem keyX (hx : ld < x) (h1 : x ≠ I) (h2 : x ≠ D) (h3 : x ≠ O) : (x ≠ bx ∧ x ≠ ld ∧ x ≠ O ∧ x ≠ nin ∧ x ≠ nout) ∧ x ≠ tl ∧ x ≠ pl ∧ x ≠ D ∧ x ≠ I := by
  have g1 := Nat.lt_trans o5 hx
  have g2 := Nat.lt_trans o4 g1
  have g3 := Nat.lt_trans o3 g2
  have g4 := Nat.lt_trans o2 g3
  have g5 := Nat.lt_trans o1 g4
  have hi : ∀ {y z : Nat}, z < y → y ≠ z := Nat.ne_of_gt
  exact ⟨⟨hi g5, hi hx, h3, hi g3, hi g4⟩, hi g2, hi g1, h2, h1⟩
theorem keyS (hx : x < tl) (h1 : x ≠ bx) (h2 : x ≠ nin) (h3 : x ≠ nout) : (x ≠ bx ∧ x ≠ ld ∧ x ≠ O ∧ x ≠ nin ∧ x ≠ nout) ∧ x ≠ tl ∧ x ≠ pl ∧ x ≠ D ∧ x ≠ I := by
  have g1 := Nat.lt_trans hx o4
  have g2 := Nat.lt_trans g1 o5
  have g3 := Nat.lt_trans g2 o6
  have g4 := Nat.lt_trans g3 o7
  have lo : ∀ {y z : Nat}, y < z → y ≠ z := Nat.ne_of_lt
  exact ⟨⟨h1, lo g2, lo (Nat.lt_trans g4 o8), h2, h3⟩, lo hx, lo g1, lo g4, lo g3⟩
end
section
variable {w : World} {mean : ExcName → Option Value} {mg mb : Str → Option Value} {dp un : Nat} {gd : Option (List Code)} {cn : Str} {cs : Scope} {a : Addr} {ccd : Value} {cl : List (Str × Addr)} {outer : List Env} {base g : Heap} {L L' : Addr} {m : Str → Option Value} {s : Shared} {Q : Flow → Shared → Prop} {E : Value → Shared → Prop}
    {st : Stmt} {fd : FuncData} {bx c ld nin nout O inn out T D tl pl I : Addr} {S : List (Addr × Obj)} {p2 : Nat} {vs : List Value} {ns : List Int} {nc : Nat}
    {ob ol oo oin oout otl opl oI : Obj} {e1 e2 e3 : Addr × Obj} {tb : Tok} {es eso esi : List DictEntry} {nt nso nsi : Nat} {di do_ : Addr}
theorem words0
    (hst : wordsFor w.params = some st) (hfd : lineData w.params = some fd)
    (B : Below (ktrTop dp un gd cn cs L a ccd cl outer) base (envX cn cs L a ccd cl :: outer) g) (F : Fr g L' s.heap m) (X : (Mine.h0.heap_1_1 w.params).In g) (T9 : Top Mine.h0.view_1_2 (looseW Mine.h0.view_1_2 [Str.ofString "UNSET", Str.ofString "Limits", Str.ofString "_law_places"]) mean mg mb g) (hk : cs.kind = .function) (hd : dp + 20 < recursionLimit) (hu : un + 400 < cLine)
    (N : News g L' s.heap ((O, oo) :: (T, instObj 296 D) :: (D, dictOf es nt) :: e1 :: e2 :: (I, oI) :: e3 :: (ld, ol) :: (pl, opl) :: (tl, otl) :: (bx, ob) :: (nin, oin) :: (nout, oout) :: S))
    (hob : ob.IsDictOf (PySem.strKind PySem.Challenge.rw_pp0008_01.row.prog w) [(Str.ofString "cells", Value.ref c), (Str.ofString "at", Value.int 0 tb)])
    (hol : ol.IsDictOf (PySem.strKind PySem.Challenge.rw_pp0008_01.row.prog w) []) (hoo : oo.IsDictOf (PySem.strKind PySem.Challenge.rw_pp0008_01.row.prog w) []) (hin : oin.IsDictOf (PySem.strKind PySem.Challenge.rw_pp0008_01.row.prog w) []) (hout : oout.IsDictOf (PySem.strKind PySem.Challenge.rw_pp0008_01.row.prog w) [])
    (M : WM m bx ld inn out T 0) (hI : IntsAre vs ns) (hln : ns.length ≤ 60) (hc : (c, W.listOf vs.toArray nc) ∈ S)
    (hlb : (bx == sysModules) = false) (hll : (ld == sysModules) = false) (hlO : (O == sysModules) = false) (hli : (nin == sysModules) = false) (hlo : (nout == sysModules) = false)
    (hS : ∀ p ∈ S, p.1 ≠ bx ∧ p.1 ≠ nin ∧ p.1 ≠ nout) (hlS : ∀ p ∈ S, p.1 < tl)
    (o1 : @LT.lt Nat _ bx nout) (o2 : @LT.lt Nat _ nout nin) (o3 : @LT.lt Nat _ nin tl) (o4 : @LT.lt Nat _ tl pl) (o5 : @LT.lt Nat _ pl ld) (o6 : @LT.lt Nat _ ld e3.1) (o7 : @LT.lt Nat _ e3.1 I) (o8 : @LT.lt Nat _ I e2.1) (o9 : @LT.lt Nat _ e2.1 e1.1) (o10 : @LT.lt Nat _ e1.1 D) (o11 : @LT.lt Nat _ D T) (o12 : @LT.lt Nat _ T O)
    (hop : TyF es O)
    (hinn : (inn, instObj 211 di) ∈ S) (hdi : (di, dictOf esi nsi) ∈ S) (hnames : getL (Str.ofString "names") esi = some (some (.ref nin)))
    (ho : (out, instObj 211 do_) ∈ S) (hdo : (do_, dictOf eso nso) ∈ S) (hnames' : getL (Str.ofString "names") eso = some (some (.ref nout)))
    (hE : PassesOwn (model PySem.Challenge.rw_pp0008_01.row.prog w) ((ktrTop dp un gd cn cs L a ccd cl outer).deeper (envOf (Str.ofString "_law_line") fd.scope L' 341 (.ref 340))) (envOf (Str.ofString "_law_line") fd.scope L' 341 (.ref 340)) E)
    (ret : ∀ (m' : Str → Option Value) (h' : Heap) (tk' : Nat) (lay' : Nat → Nat → Option Nat) (ob' ol' oo' oin' oout' : Obj) (S' : List (Addr × Obj)) (tb' : Tok) (n' : Int) (xs' : List (List (Int ⊕ Str) × Addr × Value)) (ops' kin' kout' : List (Str × Value)) (th' : Nat → Nat → Addr),
      WD PySem.Challenge.rw_pp0008_01.row.prog w 0 bx c ld nin nout O ((T, instObj 296 D) :: e1 :: e2 :: e3 :: S) [(tl, otl), (pl, opl), (D, dictOf es nt), (I, oI)] 0 3 0 lay' ob' ol' oo' oin' oout' S' tb' n' xs' ops' kin' kout' th' →
      (∀ y, y ∉ [Str.ofString "word", Str.ofString "way", Str.ofString "sub", Str.ofString "frame"] → m' y = m y) → Fr g L' h' m' →
      News g L' h' ((bx, ob') :: (ld, ol') :: (O, oo') :: (nin, oin') :: (nout, oout') :: (tl, otl) :: (pl, opl) :: (D, dictOf es nt) :: (I, oI) :: S') → Q .next { s with heap := h', toks := tk' }) :
    wpAny (model PySem.Challenge.rw_pp0008_01.row.prog w) ((ktrTop dp un gd cn cs L a ccd cl outer).deeper (envOf (Str.ofString "_law_line") fd.scope L' 341 (.ref 340))) (exec st (envOf (Str.ofString "_law_line") fd.scope L' 341 (.ref 340))) Q E s := by
  have r1 := Nat.lt_trans o6 o7
  have r2 := Nat.lt_trans o8 (Nat.lt_trans o9 o10)
  have r3 := Nat.lt_trans o11 o12
  have cR := keyR o1 o2 o3 o4 o5 r1 r2 r3
  have q1 : ∀ p ∈ (T, instObj 296 D) :: e1 :: e2 :: e3 :: S, (p.1 ≠ bx ∧ p.1 ≠ ld ∧ p.1 ≠ O ∧ p.1 ≠ nin ∧ p.1 ≠ nout) ∧ ∀ r ∈ [(tl, otl), (pl, opl), (D, dictOf es nt), (I, oI)], p.1 ≠ r.1 := by
    intro p hp
    have h : (@Ne Nat p.1 bx ∧ @Ne Nat p.1 ld ∧ @Ne Nat p.1 O ∧ @Ne Nat p.1 nin ∧ @Ne Nat p.1 nout) ∧ @Ne Nat p.1 tl ∧ @Ne Nat p.1 pl ∧ @Ne Nat p.1 D ∧ @Ne Nat p.1 I := by
      rcases List.mem_cons.mp hp with rfl | hp
      · exact keyX o1 o2 o3 o4 o5 r1 r2 r3 (Nat.lt_trans r1 (Nat.lt_trans r2 o11)) (Nat.ne_of_gt (Nat.lt_trans r2 o11)) (Nat.ne_of_gt o11) (Nat.ne_of_lt o12)
      rcases List.mem_cons.mp hp with rfl | hp
      · exact keyX o1 o2 o3 o4 o5 r1 r2 r3 (Nat.lt_trans r1 (Nat.lt_trans o8 o9)) (Nat.ne_of_gt (Nat.lt_trans o8 o9)) (Nat.ne_of_lt o10) (Nat.ne_of_lt (Nat.lt_trans o10 r3))
      rcases List.mem_cons.mp hp with rfl | hp
      · exact keyX o1 o2 o3 o4 o5 r1 r2 r3 (Nat.lt_trans r1 o8) (Nat.ne_of_gt o8) (Nat.ne_of_lt (Nat.lt_trans o9 o10)) (Nat.ne_of_lt (Nat.lt_trans (Nat.lt_trans o9 o10) r3))
      rcases List.mem_cons.mp hp with rfl | hp
      · exact keyX o1 o2 o3 o4 o5 r1 r2 r3 o6 (Nat.ne_of_lt o7) (Nat.ne_of_lt (Nat.lt_trans o7 r2)) (Nat.ne_of_lt (Nat.lt_trans (Nat.lt_trans o7 r2) r3))
      · exact keyS o1 o2 o3 o4 o5 r1 r2 r3 (hlS p hp) (hS p hp).1 (hS p hp).2.1 (hS p hp).2.2
    refine ⟨h.1, fun r hr => ?_⟩
    simp only [List.mem_cons, List.not_mem_nil, or_false] at hr
    rcases hr with rfl | rfl | rfl | rfl
    · exact h.2.1
    · exact h.2.2.1
    · exact h.2.2.2.1
    · exact h.2.2.2.2
  refine words_ok (R := [(tl, otl), (pl, opl), (D, dictOf es nt), (I, oI)]) (S := (T, instObj 296 D) :: e1 :: e2 :: e3 :: S) (K := 0) (nmax := 0) hst hfd B F X T9 hk hd hu (fun p hp => N p ?_) (WD.init q1 hob (by omega) (by omega) hol hoo hin hout) M (by omega) (by omega) (by omega) hI hln (.tail _ (.tail _ (.tail _ (.tail _ hc)))) hlb hll hlO hli hlo o1 o2 (by omega) (by omega) ?_ (.tail _ (.tail _ (.tail _ (.tail _ (.head _))))) (.tail _ (.tail _ (.head _))) hop.op
    (.tail _ (.tail _ (.tail _ (.tail _ hinn)))) (.tail _ (.tail _ (.tail _ (.tail _ hdi)))) hnames (.tail _ (.tail _ (.tail _ (.tail _ ho)))) (.tail _ (.tail _ (.tail _ (.tail _ hdo)))) hnames' hE ?_
  · simp only [List.cons_append, List.nil_append, List.mem_cons] at hp ⊢
    rcases hp with h | h | h | h | h | h | h | h | h | h | h | h | h | h <;> simp only [h, true_or, or_true]
  · intro r hr
    simp only [List.mem_cons, List.not_mem_nil, or_false] at hr
    rcases hr with rfl | rfl | rfl | rfl
    · exact cR.1.1
    · exact cR.1.2
    · exact cR.2.1
    · exact cR.2.2
  · intro m' h' tk' lay' ob' ol' oo' oin' oout' S' tb' n' xs' ops' kin' kout' th' H' _ hm F' N'
    exact ret m' h' tk' lay' ob' ol' oo' oin' oout' S' tb' n' xs' ops' kin' kout' th' H' hm F' N'
theorem WD.child {S₀ R : List (Addr × Obj)} {K p2' : Nat} {nmax : Int} {lay : Nat → Nat → Option Nat} {n : Int} {xs : List (List (Int ⊕ Str) × Addr × Value)} {ops kin kout : List (Str × Value)} {th : Nat → Nat → Addr} {prog : Program}
    (H : WD prog w p2 bx c ld nin nout O S₀ R K 3 nmax lay ob ol oo oin oout S tb n xs ops kin kout th) (hp2 : p2 < 2) (hp : p2' < 2) (hK : K < 2) (hpar : parN p2' (K + 1) = some K) :
    ∀ x, x < 3 → ∃ t, valueAt ops (wn x) = (near p2' lay x (K + 1)).map fun y => Value.str (nm y x) t := by
  intro x hx
  obtain ⟨t, h⟩ := H.vop x hx
  refine ⟨t, ?_⟩
  rw [h, near_miss (by omega) hp (by rw [H.new (K + 1) x (by omega) hx (.inl (by omega))]; rfl), hpar]
  show _ = Option.map _ (near p2' lay x K)
  rw [near_p2 (p2 := p2') (p2' := p2) hK]
theorem wordsN {S₀ : List (Addr × Obj)} {K p2' : Nat} {nmax nmax2 : Int} {lay : Nat → Nat → Option Nat} {n n2 : Int} {xs : List (List (Int ⊕ Str) × Addr × Value)} {ops ops' kin kout : List (Str × Value)} {th : Nat → Nat → Addr} {T' D' O' : Addr} {es' : List DictEntry} {nt' : Nat} {oo' ob2 otl0 opl0 oD0 oI0 : Obj} {tb2 : Tok}
    (hst : wordsFor w.params = some st) (hfd : lineData w.params = some fd)
    (B : Below (ktrTop dp un gd cn cs L a ccd cl outer) base (envX cn cs L a ccd cl :: outer) g) (F : Fr g L' s.heap m) (X : (Mine.h0.heap_1_1 w.params).In g) (T9 : Top Mine.h0.view_1_2 (looseW Mine.h0.view_1_2 [Str.ofString "UNSET", Str.ofString "Limits", Str.ofString "_law_places"]) mean mg mb g) (hk : cs.kind = .function) (hd : dp + 20 < recursionLimit) (hu : un + 400 < cLine)
    (N : News g L' s.heap ((O', oo') :: (T', instObj 296 D') :: (D', dictOf es' nt') :: (bx, ob2) :: (ld, ol) :: (O, oo) :: (nin, oin) :: (nout, oout) :: (tl, otl) :: (pl, opl) :: (D, dictOf es nt) :: (I, oI) :: S))
    (H : WD PySem.Challenge.rw_pp0008_01.row.prog w p2 bx c ld nin nout O S₀ [(tl, otl0), (pl, opl0), (D, oD0), (I, oI0)] K 3 nmax lay ob ol oo oin oout S tb n xs ops kin kout th)
    (hob : ob2.IsDictOf (PySem.strKind PySem.Challenge.rw_pp0008_01.row.prog w) [(Str.ofString "cells", Value.ref c), (Str.ofString "at", Value.int n2 tb2)]) (n0 : 0 ≤ n2) (n1 : n2 ≤ nmax2) (n3 : nmax2 < 900)
    (hoo : oo'.IsDictOf (PySem.strKind PySem.Challenge.rw_pp0008_01.row.prog w) ops') (hopl : ops'.length ≤ 3 * (K + 1))
    (vop : ∀ x, x < 3 → ∃ t, valueAt ops' (wn x) = (near p2' lay x (K + 1)).map fun y => Value.str (nm y x) t)
    (hK : K < 2) (hp2 : p2 < 2) (hp2' : p2' < 2)
    (M : WM m bx ld inn out T' (K + 1)) (hI : IntsAre vs ns) (hln : ns.length ≤ 60) (hc : (c, W.listOf vs.toArray nc) ∈ S)
    (hlb : (bx == sysModules) = false) (hll : (ld == sysModules) = false) (hlO : (O' == sysModules) = false) (hli : (nin == sysModules) = false) (hlo : (nout == sysModules) = false)
    (hlS : ∀ p ∈ S, p.1 < D')
    (o1 : @LT.lt Nat _ bx nout) (o2 : @LT.lt Nat _ nout nin) (o3 : @LT.lt Nat _ nin tl) (o4 : @LT.lt Nat _ tl pl) (o5 : @LT.lt Nat _ pl ld) (o6 : @LT.lt Nat _ ld I) (o7 : @LT.lt Nat _ I D) (o8 : @LT.lt Nat _ D O) (o9 : @LT.lt Nat _ O D') (o11 : @LT.lt Nat _ D' T') (o12 : @LT.lt Nat _ T' O')
    (hop : TyF es O) (hnum : ∃ t, getL (Str.ofString "number") es = some (some (.int (80 + (K : Nat) : Int) t))) (hT : (T, instObj 296 D) ∈ S) (hlO' : (O == sysModules) = false) (hop' : TyF es' O')
    (hinn : (inn, instObj 211 di) ∈ S) (hdi : (di, dictOf esi nsi) ∈ S) (hnames : getL (Str.ofString "names") esi = some (some (.ref nin)))
    (ho : (out, instObj 211 do_) ∈ S) (hdo : (do_, dictOf eso nso) ∈ S) (hnames' : getL (Str.ofString "names") eso = some (some (.ref nout)))
    (hE : PassesOwn (model PySem.Challenge.rw_pp0008_01.row.prog w) ((ktrTop dp un gd cn cs L a ccd cl outer).deeper (envOf (Str.ofString "_law_line") fd.scope L' 341 (.ref 340))) (envOf (Str.ofString "_law_line") fd.scope L' 341 (.ref 340)) E)
    (ret : ∀ (m' : Str → Option Value) (h' : Heap) (tk' : Nat) (lay' : Nat → Nat → Option Nat) (ob' ol' oo' oin' oout' : Obj) (S' : List (Addr × Obj)) (tb' : Tok) (n' : Int) (xs' : List (List (Int ⊕ Str) × Addr × Value)) (ops' kin' kout' : List (Str × Value)) (th' : Nat → Nat → Addr),
      WD PySem.Challenge.rw_pp0008_01.row.prog w p2' bx c ld nin nout O' ((T', instObj 296 D') :: (O, oo) :: (D, dictOf es nt) :: S) [(tl, otl), (pl, opl), (D', dictOf es' nt'), (I, oI)] (K + 1) 3 nmax2 lay' ob' ol' oo' oin' oout' S' tb' n' xs' ops' kin' kout' th' →
      (∀ x w, x < K + 1 → lay' x w = lay x w) → TyD PySem.Challenge.rw_pp0008_01.row.prog w p2' lay' S' K T D O es nt oo ops →
      (∀ y, y ∉ [Str.ofString "word", Str.ofString "way", Str.ofString "sub", Str.ofString "frame"] → m' y = m y) → Fr g L' h' m' →
      News g L' h' ((bx, ob') :: (ld, ol') :: (O', oo') :: (nin, oin') :: (nout, oout') :: (tl, otl) :: (pl, opl) :: (D', dictOf es' nt') :: (I, oI) :: S') → Q .next { s with heap := h', toks := tk' }) :
    wpAny (model PySem.Challenge.rw_pp0008_01.row.prog w) ((ktrTop dp un gd cn cs L a ccd cl outer).deeper (envOf (Str.ofString "_law_line") fd.scope L' 341 (.ref 340))) (exec st (envOf (Str.ofString "_law_line") fd.scope L' 341 (.ref 340))) Q E s := by
  have r2 := Nat.lt_trans o7 (Nat.lt_trans o8 o9)
  have r3 := Nat.lt_trans o11 o12
  have cR := keyR o1 o2 o3 o4 o5 o6 r2 r3
  have q1 : ∀ p ∈ (T', instObj 296 D') :: (O, oo) :: (D, dictOf es nt) :: S, (p.1 ≠ bx ∧ p.1 ≠ ld ∧ p.1 ≠ O' ∧ p.1 ≠ nin ∧ p.1 ≠ nout) ∧ ∀ r ∈ [(tl, otl), (pl, opl), (D', dictOf es' nt'), (I, oI)], p.1 ≠ r.1 := by
    intro p hp
    have h : (@Ne Nat p.1 bx ∧ @Ne Nat p.1 ld ∧ @Ne Nat p.1 O' ∧ @Ne Nat p.1 nin ∧ @Ne Nat p.1 nout) ∧ @Ne Nat p.1 tl ∧ @Ne Nat p.1 pl ∧ @Ne Nat p.1 D' ∧ @Ne Nat p.1 I := by
      rcases List.mem_cons.mp hp with rfl | hp
      · exact keyX o1 o2 o3 o4 o5 o6 r2 r3 (Nat.lt_trans o6 (Nat.lt_trans r2 o11)) (Nat.ne_of_gt (Nat.lt_trans r2 o11)) (Nat.ne_of_gt o11) (Nat.ne_of_lt o12)
      rcases List.mem_cons.mp hp with rfl | hp
      · exact keyX o1 o2 o3 o4 o5 o6 r2 r3 (Nat.lt_trans o6 (Nat.lt_trans o7 o8)) (Nat.ne_of_gt (Nat.lt_trans o7 o8)) (Nat.ne_of_lt o9) (Nat.ne_of_lt (Nat.lt_trans o9 r3))
      rcases List.mem_cons.mp hp with rfl | hp
      · exact keyX o1 o2 o3 o4 o5 o6 r2 r3 (Nat.lt_trans o6 o7) (Nat.ne_of_gt o7) (Nat.ne_of_lt (Nat.lt_trans o8 o9)) (Nat.ne_of_lt (Nat.lt_trans (Nat.lt_trans o8 o9) r3))
      · obtain ⟨h1, h2⟩ := H.off p hp
        exact ⟨⟨h1.1, h1.2.1, Nat.ne_of_lt (Nat.lt_trans (hlS p hp) r3), h1.2.2.2.1, h1.2.2.2.2⟩, h2 _ (.head _), h2 _ (.tail _ (.head _)), Nat.ne_of_lt (hlS p hp), h2 _ (.tail _ (.tail _ (.tail _ (.head _))))⟩
    refine ⟨h.1, fun r hr => ?_⟩
    simp only [List.mem_cons, List.not_mem_nil, or_false] at hr
    rcases hr with rfl | rfl | rfl | rfl
    · exact h.2.1
    · exact h.2.2.1
    · exact h.2.2.2.1
    · exact h.2.2.2.2
  have sb : ∀ p ∈ S, p ∈ (T', instObj 296 D') :: (O, oo) :: (D, dictOf es nt) :: S := fun p hp => .tail _ (.tail _ (.tail _ hp))
  refine words_ok (R := [(tl, otl), (pl, opl), (D', dictOf es' nt'), (I, oI)]) (S := (T', instObj 296 D') :: (O, oo) :: (D, dictOf es nt) :: S) (K := K + 1) (nmax := nmax2) hst hfd B F X T9 hk hd hu (fun p hp => N p ?_) (WD.next H sb q1 hob n0 n1 hoo hopl vop) M hp2' (by omega) n3 hI hln (sb _ hc) hlb hll hlO hli hlo o1 o2 (by omega) (by omega) ?_ (.tail _ (.tail _ (.tail _ (.tail _ (.head _))))) (.tail _ (.tail _ (.head _))) hop'.op
    (sb _ hinn) (sb _ hdi) hnames (sb _ ho) (sb _ hdo) hnames' hE ?_
  · simp only [List.cons_append, List.nil_append, List.mem_cons] at hp ⊢
    rcases hp with h | h | h | h | h | h | h | h | h | h | h | h | h <;> simp only [h, true_or, or_true]
  · intro r hr
    simp only [List.mem_cons, List.not_mem_nil, or_false] at hr
    rcases hr with rfl | rfl | rfl | rfl
    · exact cR.1.1
    · exact cR.1.2
    · exact cR.2.1
    · exact cR.2.2
  · intro m' h' tk' lay' ob' ol' oo' oin' oout' S' tb' n' xs' ops' kin' kout' th' H' hl hm F' N'
    refine ret m' h' tk' lay' ob' ol' oo' oin' oout' S' tb' n' xs' ops' kin' kout' th' H' hl ⟨H'.sub _ (sb _ hT), H'.sub _ (.tail _ (.tail _ (.head _))), hop, hnum, H'.sub _ (.tail _ (.head _)), H.hoo, ?_, hlO', fun x hx => ?_⟩ hm F' N'
    · have := H.hop; omega
    · rw [near_keep hp2 hK (Nat.lt_succ_self K) hl]
      exact H.vop x hx
end
end Mine
end
section
open PySem PySem.W PyProof.Rows PySem.Calls PySem.Spec
namespace Mine
/-- three by number -/
def pick {α : Type} (a b c : α) : Nat → α
  | 0 => a
  | 1 => b
  | _ => c
/-- what the line leaves -/
structure Lined (wo : World) (S : List (Addr × Obj)) (bx c nin nout tu : Addr) (news : List (Addr × Obj)) (ob : Obj) (n : Int) (tb : Tok) (σ : Shape) (tl pl ld : Addr) (nu nl np : Nat) (T D : Nat → Addr) (es : Nat → List DictEntry) (nT : Nat → Nat) (tT tp : Nat → Tok) (oin oout : Obj) (kin kout : List (Str × Value)) (th : Nat → Nat → Addr) (xs : List (List (Int ⊕ Str) × Addr × Value)) : Prop where
  p2 : σ.p2 < 2
  sub : ∀ p ∈ S, p ∈ news
  off : ∀ p ∈ news, p.1 ≠ bx
  tup : (tu, tupO [.ref tl, .ref pl, .ref ld] nu) ∈ news
  types : (tl, W.listOf [.ref (T 0), .ref (T 1), .ref (T 2)].toArray nl) ∈ news
  pars : (pl, W.listOf [parv σ.p2 0 (tp 0), parv σ.p2 1 (tp 1), parv σ.p2 2 (tp 2)].toArray np) ∈ news
  hob : ob.IsDictOf (PySem.strKind PySem.Challenge.rw_pp0008_01.row.prog wo) [(Str.ofString "cells", Value.ref c), (Str.ofString "at", Value.int n tb)]
  n0 : 0 ≤ n
  n1 : n ≤ 30
  laid : LaidIn PySem.Challenge.rw_pp0008_01.row.prog wo news ld xs
  says : LaidSays σ.lay xs
  lo : (ld == sysModules) = false
  line : LineOf PySem.Challenge.rw_pp0008_01.row.prog wo σ news es nin nout oin oout kin kout th
  kinds : Kinds news T D es nT tT
section
variable {wo : World} {p2 : Nat} {bx c ld nin nout O I tu tl pl T0 T1 T2 D0 D1 D2 O0 O1 : Addr} {S₀ R S Sin : List (Addr × Obj)} {nmax : Int} {lay : Nat → Nat → Option Nat}
  {ob ol oo oin oout oo0 oo1 : Obj} {tb : Tok} {n : Int} {xs : List (List (Int ⊕ Str) × Addr × Value)} {ops kin kout ops0 ops1 : List (Str × Value)} {th : Nat → Nat → Addr} {es0 es1 es2 : List DictEntry} {n0 n1 n2 nu nl np : Nat} {t0 t1 : Tok} {h₀ h : Heap} {L : Addr} {vp : Value}
theorem line_end (N : News h₀ L h ((tu, tupO [.ref tl, .ref pl, .ref ld] nu) :: (bx, ob) :: (ld, ol) :: (O, oo) :: (nin, oin) :: (nout, oout) :: (tl, W.listOf (((#[].push (.ref T0)).push (.ref T1)).push (.ref T2)) nl) :: (pl, W.listOf (((#[].push .none).push (.int 0 t0)).push vp) np) :: (D2, dictOf es2 n2) :: S)) (hvp : vp = .int (p2 : Nat) t1)
    (H : WD PySem.Challenge.rw_pp0008_01.row.prog wo p2 bx c ld nin nout O S₀ R 2 3 nmax lay ob ol oo oin oout S tb n xs ops kin kout th) (hp2 : p2 < 2) (hnm : nmax ≤ 24)
    (td0 : TyD PySem.Challenge.rw_pp0008_01.row.prog wo p2 lay S 0 T0 D0 O0 es0 n0 oo0 ops0) (td1 : TyD PySem.Challenge.rw_pp0008_01.row.prog wo p2 lay S 1 T1 D1 O1 es1 n1 oo1 ops1)
    (hT2 : (T2, instObj 296 D2) ∈ S) (h2 : TyF es2 O) (hn2 : ∃ t, getL (Str.ofString "number") es2 = some (some (.int (80 + (2 : Nat) : Int) t))) (hlO : (O == sysModules) = false) (hll : (ld == sysModules) = false) (hli : (nin == sysModules) = false) (hlo : (nout == sysModules) = false)
    (hsub : ∀ p ∈ Sin, p ∈ S) (h1x : @Ne Nat ld bx) (h2x : @Ne Nat O bx) (h3x : @Ne Nat nin bx) (h4x : @Ne Nat nout bx) (h5x : @Ne Nat tl bx) (h6x : @Ne Nat pl bx) (h7x : @Ne Nat D2 bx) (h8x : @Ne Nat tu bx) :
    ∃ tT, Lined wo Sin bx c nin nout tu ((tu, tupO [.ref tl, .ref pl, .ref ld] nu) :: (ld, ol) :: (O, oo) :: (nin, oin) :: (nout, oout) :: (tl, W.listOf [.ref T0, .ref T1, .ref T2].toArray nl) :: (pl, W.listOf [Value.none, .int 0 t0, .int (p2 : Nat) t1].toArray np) :: (D2, dictOf es2 n2) :: S) ob n tb
      ⟨p2, lay⟩ tl pl ld nu nl np (pick T0 T1 T2) (pick D0 D1 D2) (pick es0 es1 es2) (pick n0 n1 n2) tT (pick 0 t0 t1) oin oout kin kout th xs := by
  have sS : ∀ p ∈ S, p ∈ (tu, tupO [.ref tl, .ref pl, .ref ld] nu) :: (ld, ol) :: (O, oo) :: (nin, oin) :: (nout, oout) :: (tl, W.listOf [.ref T0, .ref T1, .ref T2].toArray nl) :: (pl, W.listOf [Value.none, .int 0 t0, .int (p2 : Nat) t1].toArray np) :: (D2, dictOf es2 n2) :: S :=
    fun p hp => .tail _ (.tail _ (.tail _ (.tail _ (.tail _ (.tail _ (.tail _ (.tail _ hp)))))))
  obtain ⟨a0, q0⟩ := td0.num
  obtain ⟨a1, q1⟩ := td1.num
  obtain ⟨a2, q2⟩ := hn2
  refine ⟨pick a0 a1 a2, hp2, fun p hp => sS p (hsub p hp), ?_, .head _, .tail _ (.tail _ (.tail _ (.tail _ (.tail _ (.head _))))), .tail _ (.tail _ (.tail _ (.tail _ (.tail _ (.tail _ (.head _)))))), H.hob, H.n0, by have := H.n1; omega, H.hol.toIn (.tail _ (.head _)) sS, H.hls, hll, ?_, ?_⟩
  · intro p hp
    simp only [List.mem_cons] at hp
    rcases hp with rfl | rfl | rfl | rfl | rfl | rfl | rfl | rfl | h
    · exact h8x
    · exact h1x
    · exact h2x
    · exact h3x
    · exact h4x
    · exact h5x
    · exact h6x
    · exact h7x
    · exact (H.off p h).1.1
  · refine ⟨?_, .tail _ (.tail _ (.tail _ (.head _))), H.hin, hli, .tail _ (.tail _ (.tail _ (.tail _ (.head _)))), H.hout, hlo, fun x w hx hw _ => H.vin x w hx hw, fun x w hx hw hs => ?_, fun x w k hx hw hk h0 => ?_⟩
    · intro k hk
      rcases three_cases hk with rfl | rfl | rfl
      · exact ⟨O0, oo0, ops0, td0.fs.op, sS _ td0.om, td0.hoo, td0.lo, td0.vop⟩
      · exact ⟨O1, oo1, ops1, td1.fs.op, sS _ td1.om, td1.hoo, td1.lo, td1.vop⟩
      · exact ⟨O, oo, ops, h2.op, .tail _ (.tail _ (.head _)), H.hoo, hlO, H.vop⟩
    · show valueAt kout (nm x w) = if lay x w = some 0 ∨ lay x w = some 1 then none else _
      rw [H.vout x w hx hw]
      have hne : lay x w ≠ none := fun e => by
        have hs' : (lay x w).isSome = true := hs
        rw [e] at hs'; cases hs'
      simp only [hne, false_or]
    · obtain ⟨dt, et, nt, sb, ds, eb, ns, ct, nc, t', h1, h2, h3, h4, h5, h6, h7, h8⟩ := H.thing x w k hx hw hk h0
      refine ⟨dt, et, nt, sb, ds, eb, ns, ct, nc, t', sS _ h1, sS _ h2, h3, sS _ h4, sS _ h5, h6, h7, ?_⟩
      have e : plv w = plc w := by unfold plv plc; rfl
      rw [e]
      exact sS _ h8
  · refine ⟨?_, ?_, ?_⟩
    · intro k hk
      rcases three_cases hk with rfl | rfl | rfl
      · exact sS _ td0.ty
      · exact sS _ td1.ty
      · exact sS _ hT2
    · intro k hk
      rcases three_cases hk with rfl | rfl | rfl
      · exact sS _ td0.di
      · exact sS _ td1.di
      · exact .tail _ (.tail _ (.tail _ (.tail _ (.tail _ (.tail _ (.tail _ (.head _)))))))
    · intro k hk
      rcases three_cases hk with rfl | rfl | rfl
      · exact q0
      · exact q1
      · exact q2
end
theorem reoE {h₀ h : Heap} {L tu tl pl : Addr} {nu nl np : Nat} {v1 v2 v3 t0 t1 t2 p0 p1 p2 : Value} {b1 b2 b3 b4 b5 d : Addr × Obj} {S : List (Addr × Obj)}
    (N : News h₀ L h ((tu, tupO [v1, v2, v3] nu) :: b1 :: b2 :: b3 :: b4 :: b5 :: (tl, W.listOf (((#[].push t0).push t1).push t2) nl) :: (pl, W.listOf (((#[].push p0).push p1).push p2) np) :: d :: S)) :
    News h₀ L h (b1 :: (tu, tupO [v1, v2, v3] nu) :: b2 :: b3 :: b4 :: b5 :: (tl, W.listOf [t0, t1, t2].toArray nl) :: (pl, W.listOf [p0, p1, p2].toArray np) :: d :: S) := fun p hp => by
  have e1 : ((#[].push t0).push t1).push t2 = [t0, t1, t2].toArray := rfl
  have e2 : ((#[].push p0).push p1).push p2 = [p0, p1, p2].toArray := rfl
  rw [e1, e2] at N
  refine N p ?_
  simp only [List.mem_cons] at hp ⊢
  rcases hp with h | h | h | h | h | h | h | h | h | h <;> simp only [h, true_or, or_true]
theorem ne_tup {prog : Program} {w : World} {h₀ h : Heap} {L tu bx : Addr} {news : List (Addr × Obj)} {vs : List Value} {n : Nat} {ob : Obj} {kvs : List (Str × Value)} (N : News h₀ L h news) (h1 : (tu, tupO vs n) ∈ news) (h2 : (bx, ob) ∈ news) (hob : ob.IsDictOf (PySem.strKind prog w) kvs) : @Ne Nat tu bx := by
  intro e
  have e : tu = bx := e
  subst e
  have e2 : tupO vs n = ob := Option.some.inj ((N _ h1).1.symm.trans (N _ h2).1)
  obtain ⟨_, _, _, hd, _⟩ := hob
  rw [← e2] at hd
  cases hd
end Mine
end
section
open PySem PySem.W PyProof.Rows PySem.Calls PySem.Spec
namespace Mine
local macro_rules | `(tactic| kp_flats) => `(tactic| first | decide | exact Nat.ne_of_lt (by assumption) | exact Nat.ne_of_gt (by assumption) | omega)
local macro_rules | `(tactic| k_all) => `(tactic| first | assumption | exact all_ne (by assumption) (by kp_flats))
local macro_rules | `(tactic| k_lt $h:ident) => `(tactic| (replace $h := allLt_of $h; simp only [AllLt, and_true] at $h:ident; (repeat (have hq' := And.left $h; replace $h := And.right $h))))
local macro_rules | `(tactic| k_ne) => `(tactic| first | (refine neN (Nat.ne_of_gt ?_); (try dsimp only); assumption) | (refine neN (Nat.ne_of_lt ?_); (try dsimp only); assumption))
local macro_rules | `(tactic| walk_at "call ref") => `(tactic| (k_here; (with_reducible show wpAny _ _ (call (Value.ref 334) _) _ _ _); k_dflt (refine' take_upd (by k_asm) (by k_asm) (by k_asm) (by k_asm) (by first | rfl | assumption) (by ktr_room) (by ktr_units) (by k_asm) (by k_updF) ?c (by assumption) (by assumption) (by assumption) (by assumption) (by kp_flats) (by kp_flats) (by decide) (by decide) ?_; (case c => k_mem); intro r' _ _ _ _ _ _ _ _ _ _; first | (have hr9 : r' = 0 := (by kp_flats); subst hr9) | (have hr9 : r' = 0 ∨ r' = 1 := (by kp_flats); rcases hr9 with hr9 | hr9 <;> subst hr9))))
local macro_rules | `(tactic| walk_at "call ref") => `(tactic| (k_here; (with_reducible show wpAny _ _ (call (Value.ref 307) _) _ _ _); k_dflt (refine' record_ok (by k_asm) (by k_asm) (by k_asm) (by k_asm) (by first | rfl | assumption) (by ktr_room) (by ktr_units) (by k_asm) (by k_mem) (by k_mem) ?_; intro _ _ _ _ _ _ _ _ _ _ _ _ _ lt1' _ _; (try k_lt lt1'))))
local macro_rules | `(tactic| walk_at "call ref") => `(tactic| (k_here; (with_reducible show wpAny _ _ (call (Value.ref 314) _) _ _ _); k_dflt (refine' derived_ok (by k_asm) (by k_asm) (by k_asm) (by k_asm) (by first | rfl | assumption) (by ktr_room) (by ktr_units) (by k_asm) (by k_mem) (by k_mem) (by assumption) (by k_mem) (by assumption) (by assumption) (by kp_flats) ?_; intro _ _ _ _ _ _ _ _ _ _ _ _ _ lt1' _ _; (try k_lt lt1'))))
local macro_rules | `(tactic| walk_at "setAttr ref") => `(tactic| (k_here; k_dflt (refine' set_ty (by k_asm) (by k_asm) (by k_asm) (by k_inst) (by exact rfl) (by k_is) (by k_is) (by k_is) (by k_is) (by assumption) (by decide +kernel) (by decide +kernel) (by exact rfl) (by k_updF) ?_); intro _ _ _ _ N' _ _ _; (try dsimp only at N')))
local macro_rules | `(tactic| walk_at "call ref") => `(tactic| (k_here; (with_reducible show wpAny _ _ (call (Value.ref 321) _) _ _ _); k_dflt (refine' num_ok (by k_asm) (by k_asm) (by k_asm) (by k_asm) (by first | rfl | assumption) (by ktr_room) (by ktr_units) (by k_asm) (by k_mem) (by k_mem) (by assumption) (by k_updF) ?_); intro _ _ _ _ _ N' _ _; (try dsimp only at N')))
local macro_rules | `(tactic| walk_at "exec For Name Name") => `(tactic| (k_here; (with_reducible show wpAny _ _ (exec (Stmt.For (Expr.Name (Str.ofString "word") _) _ _ _ _) _) _ _ _); refine halt ?_))
theorem item_p1 {prog : Program} {w : World} {A : Around} {E : Value → Shared → Prop} {s : Shared} {h₀ : Heap} {L l : Addr} {news : List (Addr × Obj)} {a : Value} {n : Nat} {k : Int} {u : Tok} {value slice : Expr} {Q : Value → Shared → Prop}
    (N : News h₀ L s.heap news) (hm : (l, W.listOf (#[].push a) n) ∈ news) (hk : k = 0) (h : Q a s)
    (hs : subscripted slice false (.ref l) (.int k u) = operate [.ref l, .int k u] (getItem (.ref l) (.int k u)) := by with_unfolding_all rfl) (hg : ∀ r, letTemporaryGo value (.ref l) r = pure () := by intro _; with_unfolding_all rfl) :
    wpAny (model prog w) A (subscriptTail value slice (.ref l) (.int k u)) Q E s := by
  subst hk
  exact item_list (items := #[].push a) ⟨_, (N _ hm).1, rfl, ⟨_, rfl⟩⟩ (by decide) (by decide) rfl h hs hg
theorem item_p2a {prog : Program} {w : World} {A : Around} {E : Value → Shared → Prop} {s : Shared} {h₀ : Heap} {L l : Addr} {news : List (Addr × Obj)} {a b : Value} {n : Nat} {k : Int} {u : Tok} {value slice : Expr} {Q : Value → Shared → Prop}
    (N : News h₀ L s.heap news) (hm : (l, W.listOf ((#[].push a).push b) n) ∈ news) (hk : k = 0) (h : Q a s)
    (hs : subscripted slice false (.ref l) (.int k u) = operate [.ref l, .int k u] (getItem (.ref l) (.int k u)) := by with_unfolding_all rfl) (hg : ∀ r, letTemporaryGo value (.ref l) r = pure () := by intro _; with_unfolding_all rfl) :
    wpAny (model prog w) A (subscriptTail value slice (.ref l) (.int k u)) Q E s := by
  subst hk
  exact item_list (items := (#[].push a).push b) ⟨_, (N _ hm).1, rfl, ⟨_, rfl⟩⟩ (by decide) (by decide) rfl h hs hg
theorem item_p2b {prog : Program} {w : World} {A : Around} {E : Value → Shared → Prop} {s : Shared} {h₀ : Heap} {L l : Addr} {news : List (Addr × Obj)} {a b : Value} {n : Nat} {k : Int} {u : Tok} {value slice : Expr} {Q : Value → Shared → Prop}
    (N : News h₀ L s.heap news) (hm : (l, W.listOf ((#[].push a).push b) n) ∈ news) (hk : k = 1) (h : Q b s)
    (hs : subscripted slice false (.ref l) (.int k u) = operate [.ref l, .int k u] (getItem (.ref l) (.int k u)) := by with_unfolding_all rfl) (hg : ∀ r, letTemporaryGo value (.ref l) r = pure () := by intro _; with_unfolding_all rfl) :
    wpAny (model prog w) A (subscriptTail value slice (.ref l) (.int k u)) Q E s := by
  subst hk
  exact item_list (items := (#[].push a).push b) ⟨_, (N _ hm).1, rfl, ⟨_, rfl⟩⟩ (by decide) (by decide) rfl h hs hg
theorem item_p3 {prog : Program} {w : World} {A : Around} {E : Value → Shared → Prop} {s : Shared} {h₀ : Heap} {L l : Addr} {news : List (Addr × Obj)} {a b c : Value} {n : Nat} {k : Int} {u : Tok} {value slice : Expr} {Q : Value → Shared → Prop}
    (N : News h₀ L s.heap news) (hm : (l, W.listOf (((#[].push a).push b).push c) n) ∈ news) (hk : k = 2) (h : Q c s)
    (hs : subscripted slice false (.ref l) (.int k u) = operate [.ref l, .int k u] (getItem (.ref l) (.int k u)) := by with_unfolding_all rfl) (hg : ∀ r, letTemporaryGo value (.ref l) r = pure () := by intro _; with_unfolding_all rfl) :
    wpAny (model prog w) A (subscriptTail value slice (.ref l) (.int k u)) Q E s := by
  subst hk
  exact item_list (items := ((#[].push a).push b).push c) ⟨_, (N _ hm).1, rfl, ⟨_, rfl⟩⟩ (by decide) (by decide) rfl h hs hg
local macro_rules | `(tactic| walk_at "subscriptTail Name Name ref int") => `(tactic| (k_here; (with_reducible show wpAny _ _ (subscriptTail _ _ (Value.ref _) (Value.int _ _)) _ _ _); first | (k_dflt (refine' item_p3 (by k_asm) (by k_mem) (by kp_flats) ?_; k_whole)) | (k_dflt (refine' item_p2b (by k_asm) (by k_mem) (by kp_flats) ?_; k_whole)) | (k_dflt (refine' item_p1 (by k_asm) (by k_mem) (by kp_flats) ?_; k_whole)) | (k_dflt (refine' item_p2a (by k_asm) (by k_mem) (by kp_flats) ?_; k_whole))))
local macro_rules | `(tactic| walk_at "subscriptTail Name Subscript ref int") => `(tactic| (k_here; (with_reducible show wpAny _ _ (subscriptTail _ _ (Value.ref _) (Value.int _ _)) _ _ _); first | (k_dflt (refine' item_p3 (by k_asm) (by k_mem) (by kp_flats) ?_; k_whole)) | (k_dflt (refine' item_p2b (by k_asm) (by k_mem) (by kp_flats) ?_; k_whole)) | (k_dflt (refine' item_p1 (by k_asm) (by k_mem) (by kp_flats) ?_; k_whole)) | (k_dflt (refine' item_p2a (by k_asm) (by k_mem) (by kp_flats) ?_; k_whole))))
set_option maxHeartbeats 8000000 in
theorem line_ok {w : World} {mean : ExcName → Option Value} {mg mb : Str → Option Value} {dp un : Nat} {gd : Option (List Code)} {cn : Str} {cs : Scope} {a : Addr} {ccd : Value} {cl : List (Str × Addr)} {outer : List Env} {A₀ : Around} {base h₀ : Heap} {L : Addr} {m : Str → Option Value} {s : Shared} {Q E : Value → Shared → Prop}
    {bx c inn out nin nout di do_ : Addr} {ob oin oout : Obj} {vs : List Value} {ns : List Int} {t1 : Tok} {nc nsi nso : Nat} {S : List (Addr × Obj)} {esi eso : List DictEntry}
    (B : Below A₀ base outer h₀) (F : Fr h₀ L s.heap m) (X : (Mine.h0.heap_1_1 w.params).In h₀) (T : Top Mine.h0.view_1_2 (looseW Mine.h0.view_1_2 [Str.ofString "UNSET", Str.ofString "Limits", Str.ofString "_law_places"]) mean mg mb h₀) (hk : cs.kind = .function) (hd : dp + 30 < recursionLimit) (hu : un + 600 < cLine)
    (N : News h₀ L s.heap ((bx, ob) :: (nin, oin) :: (nout, oout) :: S))
    (hob : ob.IsDictOf (PySem.strKind PySem.Challenge.rw_pp0008_01.row.prog w) [(Str.ofString "cells", Value.ref c), (Str.ofString "at", Value.int 0 t1)])
    (hI : IntsAre vs ns) (hln : ns.length ≤ 60) (hc : (c, W.listOf vs.toArray nc) ∈ S)
    (hS : ∀ p ∈ S, p.1 ≠ bx ∧ p.1 ≠ nin ∧ p.1 ≠ nout) (hlt1 : @LT.lt Nat _ bx nout) (hlt2 : @LT.lt Nat _ nout nin)
    (hoin : oin.IsDictOf (PySem.strKind PySem.Challenge.rw_pp0008_01.row.prog w) []) (hoout : oout.IsDictOf (PySem.strKind PySem.Challenge.rw_pp0008_01.row.prog w) [])
    (hlb : (bx == sysModules) = false) (hli : (nin == sysModules) = false) (hlo : (nout == sysModules) = false)
    (hinn : (inn, instObj 211 di) ∈ S) (hdi : (di, dictOf esi nsi) ∈ S) (hnames : getL (Str.ofString "names") esi = some (some (.ref nin)))
    (ho : (out, instObj 211 do_) ∈ S) (hdo : (do_, dictOf eso nso) ∈ S) (hnames' : getL (Str.ofString "names") eso = some (some (.ref nout)))
    (ret : ∀ (tu tl pl ld : Addr) (news : List (Addr × Obj)) (ob' : Obj) (n : Int) (tb : Tok) (σ : Shape) (nu nl np : Nat) (T D : Nat → Addr) (es : Nat → List DictEntry) (nT : Nat → Nat) (tT tp : Nat → Tok) (oin' oout' : Obj) (kin kout : List (Str × Value)) (th : Nat → Nat → Addr) (xs : List (List (Int ⊕ Str) × Addr × Value)) (h' : Heap) (tk' : Nat),
      Lined w S bx c nin nout tu news ob' n tb σ tl pl ld nu nl np T D es nT tT tp oin' oout' kin kout th xs → Fr h₀ L h' m → News h₀ L h' ((bx, ob') :: news) → Q (.ref tu) { s with heap := h', toks := tk' }) :
    wpAny (model PySem.Challenge.rw_pp0008_01.row.prog w) (ktrTop dp un gd cn cs L a ccd cl outer) (call (.ref 341) [.ref bx, .ref out, .ref inn]) Q E s := by
  have hst : wordsFor w.params = some _ := rfl
  have hfd : lineData w.params = some _ := rfl
  revert X
  k_fill
  intro X
  refine wpAny_call ?_
  k_dflt cell_enter
  k_steps
  unfold Halt
  (with_reducible rename Fr _ _ _ _ => kF9); (with_reducible rename News _ _ _ _ => kN9)
  refine' words0 hst hfd ?B kF9 ?X ?T ?k ?d ?u kN9 ?hob ?hol ?hoo ?hin ?hout ?M hI hln hc ?hlb ?hll ?hlO ?hli ?hlo hS ?hlS ?o1 ?o2 ?o3 ?o4 ?o5 ?o6 ?o7 ?o8 ?o9 ?o10 ?o11 ?o12 ?hop hinn hdi hnames ho hdo hnames' ?hE ?_
  case B => assumption
  case X => assumption
  case T => assumption
  case k => assumption
  case d => kp_flats
  case u => kp_flats
  case hob => assumption
  case hol => assumption
  case hoo => assumption
  case hin => assumption
  case hout => assumption
  case M => exact ⟨rfl, rfl, rfl, rfl, rfl, ⟨_, rfl⟩⟩
  case hlb => assumption
  case hll => assumption
  case hlO => assumption
  case hli => assumption
  case hlo => assumption
  case hlS => exact AllLt.mem' (by assumption : AllLt _ S)
  case o1 => first | assumption | kp_flats
  case o2 => first | assumption | kp_flats
  case o3 => first | assumption | kp_flats
  case o4 => first | assumption | kp_flats
  case o5 => first | assumption | kp_flats
  case o6 => (dsimp only; kp_flats)
  case o7 => (dsimp only; kp_flats)
  case o8 => (dsimp only; kp_flats)
  case o9 => (dsimp only; kp_flats)
  case o10 => (dsimp only; kp_flats)
  case o11 => first | assumption | kp_flats
  case o12 => first | assumption | kp_flats
  case hop => assumption
  case hE => passes_own
  intro m1 h1 tk1 lay1 ob1 ol1 oo1 oin1 oout1 S1 tb1 n1 xs1 ops1 kin1 kout1 th1 H1 hm1 F1 N1
  have b1 := H1.hob
  have c1 := H1.n0
  have d1 := H1.n1
  have j1 := H1.hoo
  have p1 := H1.hop
  have r1 := H1.sub _ (.tail _ (.tail _ (.tail _ (.tail _ hc))))
  have x1 := H1.sub _ (.head _)
  have y1 : ∀ p ∈ S1, p.1 ≠ bx := fun p hp => (H1.off p hp).1.1
  have z1 := fun p hp => (H1.off p hp).2 _ (.head _)
  have u1 := fun p hp => (H1.off p hp).2 _ (.tail _ (.head _))
  have w1 := fun p hp => (H1.off p hp).2 _ (.tail _ (.tail _ (.head _)))
  have v1 := fun p hp => (H1.off p hp).2 _ (.tail _ (.tail _ (.tail _ (.head _))))
  have n_types : m1 (Str.ofString "types") = some (.ref _) := (hm1 _ (by decide +kernel)).trans (by first | rfl | assumption)
  have n_parents : m1 (Str.ofString "parents") = some (.ref _) := (hm1 _ (by decide +kernel)).trans (by first | rfl | assumption)
  have n_laid : m1 (Str.ofString "laid") = some (.ref _) := (hm1 _ (by decide +kernel)).trans (by first | rfl | assumption)
  have n_box : m1 (Str.ofString "box") = some (.ref bx) := (hm1 _ (by decide +kernel)).trans (by first | rfl | assumption)
  have n_inner : m1 (Str.ofString "inner") = some (.ref inn) := (hm1 _ (by decide +kernel)).trans (by first | rfl | assumption)
  have n_outer : m1 (Str.ofString "outer") = some (.ref out) := (hm1 _ (by decide +kernel)).trans (by first | rfl | assumption)
  have n_made : m1 (Str.ofString "made") = some (.ref _) := (hm1 _ (by decide +kernel)).trans (by first | rfl | assumption)
  have n_at : m1 (Str.ofString "at") = some (.int _ _) := (hm1 _ (by decide +kernel)).trans (by first | rfl | assumption)
  k_steps
  (with_reducible rename Fr _ _ _ _ => kF9); (with_reducible rename News _ _ _ _ => kN9)
  refine unr9 kF9 kN9 (by dsimp only; kp_flats) (by dsimp only; kp_flats) (by dsimp only; kp_flats) (by dsimp only; kp_flats) (by dsimp only; kp_flats) (by dsimp only; kp_flats) (by dsimp only; kp_flats) (by dsimp only; kp_flats) v1 ?_
  k_steps
  unfold Halt
  (with_reducible rename Fr _ _ _ _ => kF9); (with_reducible rename News _ _ _ _ => kN9)
  refine' wordsN (p2' := 0) (nmax2 := 7) hst hfd ?B kF9 ?X ?T ?k ?d ?u (reoN kN9) H1 ?hob ?n0 ?n1 ?n3 ?hoo ?hopl ?vop ?hK ?hp2 ?hp2' ?M hI hln r1 ?hlb ?hll ?hlO ?hli ?hlo ?hlS ?o1 ?o2 ?o3 ?o4 ?o5 ?o6 ?o7 ?o8 ?o9 ?o11 ?o12 ?hop ?hnum x1 ?hlO' ?hop' (H1.sub _ (.tail _ (.tail _ (.tail _ (.tail _ hinn))))) (H1.sub _ (.tail _ (.tail _ (.tail _ (.tail _ hdi))))) hnames (H1.sub _ (.tail _ (.tail _ (.tail _ (.tail _ ho))))) (H1.sub _ (.tail _ (.tail _ (.tail _ (.tail _ hdo))))) hnames' ?hE ?_
  case B => assumption
  case X => assumption
  case T => assumption
  case k => assumption
  case hob => assumption
  case hoo => assumption
  case hlb => assumption
  case hll => assumption
  case hlO => assumption
  case hli => assumption
  case hlo => assumption
  case hop => assumption
  case hlO' => assumption
  case hop' => assumption
  case d => kp_flats
  case u => kp_flats
  case n0 => kp_flats
  case n1 => kp_flats
  case n3 => kp_flats
  case hopl => kp_flats
  case hK => kp_flats
  case hp2 => kp_flats
  case hp2' => kp_flats
  case o1 => first | assumption | kp_flats
  case o2 => first | assumption | kp_flats
  case o3 => first | assumption | kp_flats
  case o4 => first | assumption | kp_flats
  case o5 => first | assumption | kp_flats
  case o6 => first | assumption | kp_flats
  case o7 => first | assumption | kp_flats
  case o8 => first | assumption | kp_flats
  case o9 => first | assumption | kp_flats
  case o11 => first | assumption | kp_flats
  case o12 => first | assumption | kp_flats
  case vop => exact WD.child H1 (by kp_flats) (by kp_flats) (by kp_flats) rfl
  case M => exact ⟨by first | rfl | assumption, by first | rfl | assumption, by first | rfl | assumption, by first | rfl | assumption, by first | rfl | assumption, ⟨_, rfl⟩⟩
  case hlS => exact AllLt.mem' (by assumption : AllLt _ S1)
  case hnum => exact ⟨_, by assumption⟩
  case hE => passes_own
  intro m2 h2 tk2 lay2 ob2 ol2 oo2 oin2 oout2 S2 tb2 n2 xs2 ops2 kin2 kout2 th2 H2 hl2 td0 hm2 F2 N2
  have b2 := H2.hob
  have c2 := H2.n0
  have d2 := H2.n1
  have j2 := H2.hoo
  have p2 := H2.hop
  have r2 := H2.sub _ (.tail _ (.tail _ (.tail _ r1)))
  have x2 := H2.sub _ (.head _)
  have y2 : ∀ p ∈ S2, p.1 ≠ bx := fun p hp => (H2.off p hp).1.1
  have z2 := fun p hp => (H2.off p hp).2 _ (.head _)
  have u2 := fun p hp => (H2.off p hp).2 _ (.tail _ (.head _))
  have w2 := fun p hp => (H2.off p hp).2 _ (.tail _ (.tail _ (.head _)))
  have v2 := fun p hp => (H2.off p hp).2 _ (.tail _ (.tail _ (.tail _ (.head _))))
  have n2_types : m2 (Str.ofString "types") = some (.ref _) := (hm2 _ (by decide +kernel)).trans (by first | rfl | assumption)
  have n2_parents : m2 (Str.ofString "parents") = some (.ref _) := (hm2 _ (by decide +kernel)).trans (by first | rfl | assumption)
  have n2_laid : m2 (Str.ofString "laid") = some (.ref _) := (hm2 _ (by decide +kernel)).trans (by first | rfl | assumption)
  have n2_box : m2 (Str.ofString "box") = some (.ref _) := (hm2 _ (by decide +kernel)).trans (by first | rfl | assumption)
  have n2_inner : m2 (Str.ofString "inner") = some (.ref _) := (hm2 _ (by decide +kernel)).trans (by first | rfl | assumption)
  have n2_outer : m2 (Str.ofString "outer") = some (.ref _) := (hm2 _ (by decide +kernel)).trans (by first | rfl | assumption)
  have n2_made : m2 (Str.ofString "made") = some (.ref _) := (hm2 _ (by decide +kernel)).trans (by first | rfl | assumption)
  have n2_at : m2 (Str.ofString "at") = some (.int _ _) := (hm2 _ (by decide +kernel)).trans (by first | rfl | assumption)
  have g1 := td0.ty
  have g2 := td0.di
  have g3 := td0.fs
  have g4 := td0.om
  have g5 := td0.hoo
  have g6 := td0.hop
  have g7 := td0.lo
  k_steps
  (with_reducible rename Fr _ _ _ _ => kF9); (with_reducible rename News _ _ _ _ => kN9)
  refine unr9 kF9 kN9 (by dsimp only; kp_flats) (by dsimp only; kp_flats) (by dsimp only; kp_flats) (by dsimp only; kp_flats) (by dsimp only; kp_flats) (by dsimp only; kp_flats) (by dsimp only; kp_flats) (by dsimp only; kp_flats) v2 ?_
  k_steps
  · unfold Halt
    (with_reducible rename Fr _ _ _ _ => kF9); (with_reducible rename News _ _ _ _ => kN9)
    refine' wordsN (p2' := 0) (nmax2 := 14) hst hfd ?B kF9 ?X ?T ?k ?d ?u (reoN kN9) H2 ?hob ?n0 ?n1 ?n3 ?hoo ?hopl ?vop ?hK ?hp2 ?hp2' ?M hI hln r2 ?hlb ?hll ?hlO ?hli ?hlo ?hlS ?o1 ?o2 ?o3 ?o4 ?o5 ?o6 ?o7 ?o8 ?o9 ?o11 ?o12 ?hop ?hnum x2 ?hlO' ?hop' (H2.sub _ (.tail _ (.tail _ (.tail _ (H1.sub _ (.tail _ (.tail _ (.tail _ (.tail _ hinn))))))))) (H2.sub _ (.tail _ (.tail _ (.tail _ (H1.sub _ (.tail _ (.tail _ (.tail _ (.tail _ hdi))))))))) hnames (H2.sub _ (.tail _ (.tail _ (.tail _ (H1.sub _ (.tail _ (.tail _ (.tail _ (.tail _ ho))))))))) (H2.sub _ (.tail _ (.tail _ (.tail _ (H1.sub _ (.tail _ (.tail _ (.tail _ (.tail _ hdo))))))))) hnames' ?hE ?_
    case B => assumption
    case X => assumption
    case T => assumption
    case k => assumption
    case hob => assumption
    case hoo => assumption
    case hlb => assumption
    case hll => assumption
    case hlO => assumption
    case hli => assumption
    case hlo => assumption
    case hop => assumption
    case hlO' => assumption
    case hop' => assumption
    case d => kp_flats
    case u => kp_flats
    case n0 => kp_flats
    case n1 => kp_flats
    case n3 => kp_flats
    case hopl => kp_flats
    case hK => kp_flats
    case hp2 => kp_flats
    case hp2' => kp_flats
    case o1 => first | assumption | kp_flats
    case o2 => first | assumption | kp_flats
    case o3 => first | assumption | kp_flats
    case o4 => first | assumption | kp_flats
    case o5 => first | assumption | kp_flats
    case o6 => first | assumption | kp_flats
    case o7 => first | assumption | kp_flats
    case o8 => first | assumption | kp_flats
    case o9 => first | assumption | kp_flats
    case o11 => first | assumption | kp_flats
    case o12 => first | assumption | kp_flats
    case vop => exact TyD.child td0 (by kp_flats) (by kp_flats) rfl (fun x hx => H2.new 2 x (by kp_flats) hx (.inl (by kp_flats))) (fun x _ => rfl)
    case M => exact ⟨by first | rfl | assumption, by first | rfl | assumption, by first | rfl | assumption, by first | rfl | assumption, by first | rfl | assumption, ⟨_, rfl⟩⟩
    case hlS => exact AllLt.mem' (by assumption : AllLt _ S2)
    case hnum => exact ⟨_, by assumption⟩
    case hE => passes_own
    intro m3 h3 tk3 lay3 ob3 ol3 oo3 oin3 oout3 S3 tb3 n3 xs3 ops3 kin3 kout3 th3 H3 hl3 td1 hm3 F3 N3
    have b3 := H3.hob
    have c3 := H3.n0
    have d3 := H3.n1
    have j3 := H3.hoo
    have p3 := H3.hop
    have r3 := H3.sub _ (.tail _ (.tail _ (.tail _ r2)))
    have x3 := H3.sub _ (.head _)
    have y3 : ∀ p ∈ S3, p.1 ≠ bx := fun p hp => (H3.off p hp).1.1
    have z3 := fun p hp => (H3.off p hp).2 _ (.head _)
    have u3 := fun p hp => (H3.off p hp).2 _ (.tail _ (.head _))
    have w3 := fun p hp => (H3.off p hp).2 _ (.tail _ (.tail _ (.head _)))
    have v3 := fun p hp => (H3.off p hp).2 _ (.tail _ (.tail _ (.tail _ (.head _))))
    have n3_types : m3 (Str.ofString "types") = some (.ref _) := (hm3 _ (by decide +kernel)).trans (by first | rfl | assumption)
    have n3_parents : m3 (Str.ofString "parents") = some (.ref _) := (hm3 _ (by decide +kernel)).trans (by first | rfl | assumption)
    have n3_laid : m3 (Str.ofString "laid") = some (.ref _) := (hm3 _ (by decide +kernel)).trans (by first | rfl | assumption)
    have n3_box : m3 (Str.ofString "box") = some (.ref _) := (hm3 _ (by decide +kernel)).trans (by first | rfl | assumption)
    have n3_inner : m3 (Str.ofString "inner") = some (.ref _) := (hm3 _ (by decide +kernel)).trans (by first | rfl | assumption)
    have n3_outer : m3 (Str.ofString "outer") = some (.ref _) := (hm3 _ (by decide +kernel)).trans (by first | rfl | assumption)
    have n3_made : m3 (Str.ofString "made") = some (.ref _) := (hm3 _ (by decide +kernel)).trans (by first | rfl | assumption)
    have n3_at : m3 (Str.ofString "at") = some (.int _ _) := (hm3 _ (by decide +kernel)).trans (by first | rfl | assumption)
    k_steps
    (with_reducible rename Fr _ _ _ _ => kF9); (with_reducible rename News _ _ _ _ => kN9)
    refine unr9 kF9 kN9 (by dsimp only; kp_flats) (by dsimp only; kp_flats) (by dsimp only; kp_flats) (by dsimp only; kp_flats) (by dsimp only; kp_flats) (by dsimp only; kp_flats) (by dsimp only; kp_flats) (by dsimp only; kp_flats) v3 ?_
    k_steps
    (with_reducible rename Fr _ _ _ _ => kF9); (with_reducible rename News _ _ _ _ => kN9)
    have hsub9 : ∀ p ∈ S, p ∈ S3 := fun p hp => H3.sub _ (.tail _ (.tail _ (.tail _ (H2.sub _ (.tail _ (.tail _ (.tail _ (H1.sub _ (.tail _ (.tail _ (.tail _ (.tail _ hp))))))))))))
    obtain ⟨tT, hL⟩ := line_end (p2 := 0) (Sin := S) kN9 rfl H3 (by kp_flats) (by kp_flats) (td0.mono (fun p hp => H3.sub _ (.tail _ (.tail _ (.tail _ hp)))) (fun x _ => near_keep (by kp_flats) (by kp_flats) (by kp_flats) hl3)) td1 x3 (by assumption) ⟨_, by assumption⟩ (by assumption) (by assumption) (by assumption) (by assumption) hsub9 (by kp_flats) (by kp_flats) (by kp_flats) (by kp_flats) (by kp_flats) (by kp_flats) (by kp_flats) (ne_tup kN9 (.head _) (.tail _ (.head _)) b3)
    exact ret _ _ _ _ _ _ _ _ _ _ _ _ _ _ _ _ _ _ _ _ _ _ _ _ _ _ hL kF9 (reoE kN9)
  · unfold Halt
    (with_reducible rename Fr _ _ _ _ => kF9); (with_reducible rename News _ _ _ _ => kN9)
    refine' wordsN (p2' := 1) (nmax2 := 14) hst hfd ?B kF9 ?X ?T ?k ?d ?u (reoN kN9) H2 ?hob ?n0 ?n1 ?n3 ?hoo ?hopl ?vop ?hK ?hp2 ?hp2' ?M hI hln r2 ?hlb ?hll ?hlO ?hli ?hlo ?hlS ?o1 ?o2 ?o3 ?o4 ?o5 ?o6 ?o7 ?o8 ?o9 ?o11 ?o12 ?hop ?hnum x2 ?hlO' ?hop' (H2.sub _ (.tail _ (.tail _ (.tail _ (H1.sub _ (.tail _ (.tail _ (.tail _ (.tail _ hinn))))))))) (H2.sub _ (.tail _ (.tail _ (.tail _ (H1.sub _ (.tail _ (.tail _ (.tail _ (.tail _ hdi))))))))) hnames (H2.sub _ (.tail _ (.tail _ (.tail _ (H1.sub _ (.tail _ (.tail _ (.tail _ (.tail _ ho))))))))) (H2.sub _ (.tail _ (.tail _ (.tail _ (H1.sub _ (.tail _ (.tail _ (.tail _ (.tail _ hdo))))))))) hnames' ?hE ?_
    case B => assumption
    case X => assumption
    case T => assumption
    case k => assumption
    case hob => assumption
    case hoo => assumption
    case hlb => assumption
    case hll => assumption
    case hlO => assumption
    case hli => assumption
    case hlo => assumption
    case hop => assumption
    case hlO' => assumption
    case hop' => assumption
    case d => kp_flats
    case u => kp_flats
    case n0 => kp_flats
    case n1 => kp_flats
    case n3 => kp_flats
    case hopl => kp_flats
    case hK => kp_flats
    case hp2 => kp_flats
    case hp2' => kp_flats
    case o1 => first | assumption | kp_flats
    case o2 => first | assumption | kp_flats
    case o3 => first | assumption | kp_flats
    case o4 => first | assumption | kp_flats
    case o5 => first | assumption | kp_flats
    case o6 => first | assumption | kp_flats
    case o7 => first | assumption | kp_flats
    case o8 => first | assumption | kp_flats
    case o9 => first | assumption | kp_flats
    case o11 => first | assumption | kp_flats
    case o12 => first | assumption | kp_flats
    case vop => exact WD.child H2 (by kp_flats) (by kp_flats) (by kp_flats) rfl
    case M => exact ⟨by first | rfl | assumption, by first | rfl | assumption, by first | rfl | assumption, by first | rfl | assumption, by first | rfl | assumption, ⟨_, rfl⟩⟩
    case hlS => exact AllLt.mem' (by assumption : AllLt _ S2)
    case hnum => exact ⟨_, by assumption⟩
    case hE => passes_own
    intro m3 h3 tk3 lay3 ob3 ol3 oo3 oin3 oout3 S3 tb3 n3 xs3 ops3 kin3 kout3 th3 H3 hl3 td1 hm3 F3 N3
    have b3 := H3.hob
    have c3 := H3.n0
    have d3 := H3.n1
    have j3 := H3.hoo
    have p3 := H3.hop
    have r3 := H3.sub _ (.tail _ (.tail _ (.tail _ r2)))
    have x3 := H3.sub _ (.head _)
    have y3 : ∀ p ∈ S3, p.1 ≠ bx := fun p hp => (H3.off p hp).1.1
    have z3 := fun p hp => (H3.off p hp).2 _ (.head _)
    have u3 := fun p hp => (H3.off p hp).2 _ (.tail _ (.head _))
    have w3 := fun p hp => (H3.off p hp).2 _ (.tail _ (.tail _ (.head _)))
    have v3 := fun p hp => (H3.off p hp).2 _ (.tail _ (.tail _ (.tail _ (.head _))))
    have n3_types : m3 (Str.ofString "types") = some (.ref _) := (hm3 _ (by decide +kernel)).trans (by first | rfl | assumption)
    have n3_parents : m3 (Str.ofString "parents") = some (.ref _) := (hm3 _ (by decide +kernel)).trans (by first | rfl | assumption)
    have n3_laid : m3 (Str.ofString "laid") = some (.ref _) := (hm3 _ (by decide +kernel)).trans (by first | rfl | assumption)
    have n3_box : m3 (Str.ofString "box") = some (.ref _) := (hm3 _ (by decide +kernel)).trans (by first | rfl | assumption)
    have n3_inner : m3 (Str.ofString "inner") = some (.ref _) := (hm3 _ (by decide +kernel)).trans (by first | rfl | assumption)
    have n3_outer : m3 (Str.ofString "outer") = some (.ref _) := (hm3 _ (by decide +kernel)).trans (by first | rfl | assumption)
    have n3_made : m3 (Str.ofString "made") = some (.ref _) := (hm3 _ (by decide +kernel)).trans (by first | rfl | assumption)
    have n3_at : m3 (Str.ofString "at") = some (.int _ _) := (hm3 _ (by decide +kernel)).trans (by first | rfl | assumption)
    k_steps
    (with_reducible rename Fr _ _ _ _ => kF9); (with_reducible rename News _ _ _ _ => kN9)
    refine unr9 kF9 kN9 (by dsimp only; kp_flats) (by dsimp only; kp_flats) (by dsimp only; kp_flats) (by dsimp only; kp_flats) (by dsimp only; kp_flats) (by dsimp only; kp_flats) (by dsimp only; kp_flats) (by dsimp only; kp_flats) v3 ?_
    k_steps
    (with_reducible rename Fr _ _ _ _ => kF9); (with_reducible rename News _ _ _ _ => kN9)
    have hsub9 : ∀ p ∈ S, p ∈ S3 := fun p hp => H3.sub _ (.tail _ (.tail _ (.tail _ (H2.sub _ (.tail _ (.tail _ (.tail _ (H1.sub _ (.tail _ (.tail _ (.tail _ (.tail _ hp))))))))))))
    obtain ⟨tT, hL⟩ := line_end (p2 := 1) (Sin := S) kN9 rfl H3 (by kp_flats) (by kp_flats) (td0.mono (fun p hp => H3.sub _ (.tail _ (.tail _ (.tail _ hp)))) (fun x _ => near_keep (by kp_flats) (by kp_flats) (by kp_flats) hl3)) td1 x3 (by assumption) ⟨_, by assumption⟩ (by assumption) (by assumption) (by assumption) (by assumption) hsub9 (by kp_flats) (by kp_flats) (by kp_flats) (by kp_flats) (by kp_flats) (by kp_flats) (by kp_flats) (ne_tup kN9 (.head _) (.tail _ (.head _)) b3)
    exact ret _ _ _ _ _ _ _ _ _ _ _ _ _ _ _ _ _ _ _ _ _ _ _ _ _ _ hL kF9 (reoE kN9)
end Mine
end
section
open PySem PySem.W PyProof.Rows PySem.Calls PySem.Spec
namespace Mine
local macro_rules | `(tactic| walk_at "setAttr ref") => `(tactic| (k_here; k_dflt (refine' set_fd (by k_asm) (by k_asm) (by k_asm) (by k_inst) (by exact rfl) (by k_is) (by k_is) (by k_is) (by k_is) (by first | assumption | exact FD.nil) (by first | exact Nat.le_of_ble_eq_true rfl | ((try simp only [List.length_cons]); omega)) (by k_updF) ?_); intro _ _ _ _ _ N' _; (try dsimp only at N')))
section
variable {w : World} {mean : ExcName → Option Value} {mg mb : Str → Option Value} {dp un : Nat} {gd : Option (List Code)} {cn : Str} {cs : Scope} {a : Addr} {ccd : Value} {cl : List (Str × Addr)} {outer : List Env} {A₀ : Around} {base h₀ : Heap} {L : Addr} {m : Str → Option Value} {s : Shared} {Q E : Value → Shared → Prop} {news : List (Addr × Obj)}
set_option maxHeartbeats 8000000 in
theorem run_ok {lm : Addr}
    (B : Below A₀ base outer h₀) (F : Fr h₀ L s.heap m) (X : (Mine.h0.heap_1_1 w.params).In h₀) (T : Top Mine.h0.view_1_2 (looseW Mine.h0.view_1_2 [Str.ofString "UNSET", Str.ofString "Limits", Str.ofString "_law_places"]) mean mg mb h₀) (hk : cs.kind = .function) (hd : dp + 8 < recursionLimit) (hu : un + 200 < cLine)
    (N : News h₀ L s.heap news)
    (ret : ∀ (e dx : Addr) (es : List DictEntry) (n : Nat) (tl : Tok) (u : Value) (h' : Heap) (tk' : Nat), Fr h₀ L h' m → News h₀ L h' ((dx, dictOf es n) :: (e, instObj 232 dx) :: news) → getL (Str.ofString "line") es = some (some (.int 0 tl)) → getL (Str.ofString "task") es = some (some u) → es.length ≤ 100 → (∀ p ∈ news, p.1 < dx) → @LT.lt Nat _ dx e → Q (.ref e) { s with heap := h', toks := tk' }) :
    wpAny (model PySem.Challenge.rw_pp0008_01.row.prog w) (ktrTop dp un gd cn cs L a ccd cl outer) (call (.ref 232) [.none, .ref lm]) Q E s := by
  revert X
  k_fill
  intro X
  k_dflt (refine' call_cls ?k1 ?k2 ?k3 ?k4 ?k5 ?k6 ?_; (case k1 => k_asm); (case k2 => k_asm); (case k3 => k_asm); (case k4 => k_is); (case k5 => k_is); (case k6 => k_is); k_whole; intro x' d' h' F' N' l1 l2; (try k_lt l1); (try k_lt2 l2); (try k_sweep))
  k_dflt cell_enter
  refine' fields_n (x := Str.ofString "self") (specs := [(Str.ofString "world", .loc (Str.ofString "world")), (Str.ofString "limits", .loc (Str.ofString "limits")), (Str.ofString "nodes", .obj), (Str.ofString "statements", .obj), (Str.ofString "declarations", .obj)]) (news := news) 5 ?qX ?qF ?qN ?qx ?qa ?qb ?qH ?qsp ?qs ?qp ?qh ?qt ?qbig ?qk ?qxl ?qxd ?qf ?qz ?qsub ?qne ?qnews ?_
  case qF => k_asm
  case qN => k_asm
  case qx => exact rfl
  case qX => k_in
  case qa => k_mem
  case qb => k_mem
  case qH => exact FD.nil
  case qsp => exact rfl
  case qs => k_is
  case qp => k_is
  case qh => k_is
  case qt => repeat (first | exact List.forall_mem_nil _ | (refine List.forall_mem_cons.mpr ⟨by k_is, ?_⟩))
  case qbig => exact Top.nolimit (by k_asm)
  case qk => first | exact rfl | assumption
  case qxl => exact rfl
  case qxd => decide +kernel
  case qf => exact rfl
  case qz => first | exact Nat.le_of_ble_eq_true rfl | (simp only [List.length_cons, List.length_nil]; omega)
  case qsub => (intro p hp; repeat (first | exact hp | refine List.Mem.tail _ ?_))
  case qne => omega
  case qnews => first | exact all_ne (AllLt.mem' (by assumption)) (Nat.le_refl _) | exact fun p hp => Nat.ne_of_lt (AllLt.mem' (by assumption) p hp) | exact fun p hp => Nat.ne_of_lt ((by assumption : ∀ p ∈ news, p.1 < _) p hp) | (have h9 := (by assumption : _ ∧ AllLt _ news).2; exact fun p hp => Nat.ne_of_lt (AllLt.mem' h9 p hp))
  intro h1 es1 n1 tk1 kv1 kF1 kN1 fd1 ex1
  have kl1 := ex1.len
  simp only [List.length_cons, List.length_nil] at kl1
  simp only [List.drop_succ_cons, List.drop_zero]
  repeat ((fail_if_success (with_reducible show wpAny _ _ (execs (Stmt.Assign [Expr.Attribute _ (Str.ofString "task") _] _ _ :: _) _) _ _ _)); (first | (k_unfold; (try dsimp only)) | (k_end; wrow_close) | walk1 | (dsimp only; walk1) | (leave1; walk_say "STEP leave1"; try dsimp only) | fail "no step"))
  refine' fields_n (x := Str.ofString "self") (specs := [(Str.ofString "task", .none), (Str.ofString "steps", .int 0), (Str.ofString "line", .int 0), (Str.ofString "fault", .none), (Str.ofString "discs", .obj), (Str.ofString "piled", .int 0), (Str.ofString "heaped", .int 0), (Str.ofString "about", .none), (Str.ofString "ends", .obj), (Str.ofString "drops", .obj), (Str.ofString "resumes", .obj), (Str.ofString "is_free", .none), (Str.ofString "activate", .none), (Str.ofString "tasking", .none), (Str.ofString "find_sub", .none), (Str.ofString "call_function", .none), (Str.ofString "dispatch_function", .none), (Str.ofString "make_active", .none), (Str.ofString "task_attr", .none), (Str.ofString "run_entry", .none), (Str.ofString "run_procedure", .none), (Str.ofString "function_result", .none), (Str.ofString "lay_operation", .none), (Str.ofString "prot", .obj), (Str.ofString "passed", .obj)]) (news := news) 25 ?qX ?qF ?qN ?qx ?qa ?qb ?qH ?qsp ?qs ?qp ?qh ?qt ?qbig ?qk ?qxl ?qxd ?qf ?qz ?qsub ?qne ?qnews ?_
  case qF => k_asm
  case qN => k_asm
  case qx => exact rfl
  case qX => k_in
  case qa => k_mem
  case qb => k_mem
  case qH => exact (by assumption)
  case qsp => exact rfl
  case qs => k_is
  case qp => k_is
  case qh => k_is
  case qt => repeat (first | exact List.forall_mem_nil _ | (refine List.forall_mem_cons.mpr ⟨by k_is, ?_⟩))
  case qbig => exact Top.nolimit (by k_asm)
  case qk => first | exact rfl | assumption
  case qxl => exact rfl
  case qxd => decide +kernel
  case qf => exact rfl
  case qz => first | exact Nat.le_of_ble_eq_true rfl | (simp only [List.length_cons, List.length_nil]; omega)
  case qsub => (intro p hp; repeat (first | exact hp | refine List.Mem.tail _ ?_))
  case qne => omega
  case qnews => first | exact all_ne (AllLt.mem' (by assumption)) (Nat.le_refl _) | exact fun p hp => Nat.ne_of_lt (AllLt.mem' (by assumption) p hp) | exact fun p hp => Nat.ne_of_lt ((by assumption : ∀ p ∈ news, p.1 < _) p hp) | (have h9 := (by assumption : _ ∧ AllLt _ news).2; exact fun p hp => Nat.ne_of_lt (AllLt.mem' h9 p hp))
  intro h2 es2 n2 tk2 kv2 kF2 kN2 fd2 ex2
  have kl2 := ex2.len
  simp only [List.length_cons, List.length_nil] at kl2
  simp only [List.drop_succ_cons, List.drop_zero]
  k_steps
  (with_reducible rename Fr _ _ _ _ => kF9); (with_reducible rename News _ _ _ _ => kN9)
  obtain ⟨v1, q1, e1⟩ := ex2.idx (a := Str.ofString "line") 2 rfl rfl
  obtain ⟨v2, q2, e2⟩ := ex2.idx (a := Str.ofString "task") 0 rfl rfl
  obtain ⟨tl, rfl⟩ := e1
  exact ret x' d' es2 n2 tl v2 _ _ kF9 (cb2 kN9 (.tail _ (.head _)) (.head _) (fun p hp => .tail _ (.tail _ hp))) (fd2.get q1) (fd2.get q2) (Nat.le_trans fd2.len (by omega)) (by first | assumption | exact AllLt.mem' (by assumption)) l2
set_option maxHeartbeats 8000000 in
theorem task_ok {t1 t2 : Tok}
    (B : Below A₀ base outer h₀) (F : Fr h₀ L s.heap m) (X : (Mine.h0.heap_1_1 w.params).In h₀) (T : Top Mine.h0.view_1_2 (looseW Mine.h0.view_1_2 [Str.ofString "UNSET", Str.ofString "Limits", Str.ofString "_law_places"]) mean mg mb h₀) (hk : cs.kind = .function) (hd : dp + 8 < recursionLimit) (hu : un + 200 < cLine)
    (N : News h₀ L s.heap news)
    (ret : ∀ (e dx : Addr) (es : List DictEntry) (n : Nat) (u : Value) (h' : Heap) (tk' : Nat), Fr h₀ L h' m → News h₀ L h' ((dx, dictOf es n) :: (e, instObj 275 dx) :: news) → getL (Str.ofString "frame") es = some (some u) → es.length ≤ 100 → (∀ p ∈ news, p.1 < dx) → @LT.lt Nat _ dx e → Q (.ref e) { s with heap := h', toks := tk' }) :
    wpAny (model PySem.Challenge.rw_pp0008_01.row.prog w) (ktrTop dp un gd cn cs L a ccd cl outer) (call (.ref 275) [.int 1 t1, .str (Str.ofString "law") t2, .none]) Q E s := by
  revert X
  k_fill
  intro X
  k_dflt (refine' call_cls ?k1 ?k2 ?k3 ?k4 ?k5 ?k6 ?_; (case k1 => k_asm); (case k2 => k_asm); (case k3 => k_asm); (case k4 => k_is); (case k5 => k_is); (case k6 => k_is); k_whole; intro x' d' h' F' N' l1 l2; (try k_lt l1); (try k_lt2 l2); (try k_sweep))
  k_dflt cell_enter
  refine' fields_n (x := Str.ofString "self") (specs := [(Str.ofString "number", .loc (Str.ofString "number")), (Str.ofString "name", .loc (Str.ofString "name")), (Str.ofString "master", .loc (Str.ofString "master"))]) (news := news) 3 ?qX ?qF ?qN ?qx ?qa ?qb ?qH ?qsp ?qs ?qp ?qh ?qt ?qbig ?qk ?qxl ?qxd ?qf ?qz ?qsub ?qne ?qnews ?_
  case qF => k_asm
  case qN => k_asm
  case qx => exact rfl
  case qX => k_in
  case qa => k_mem
  case qb => k_mem
  case qH => exact FD.nil
  case qsp => exact rfl
  case qs => k_is
  case qp => k_is
  case qh => k_is
  case qt => repeat (first | exact List.forall_mem_nil _ | (refine List.forall_mem_cons.mpr ⟨by k_is, ?_⟩))
  case qbig => exact Top.nolimit (by k_asm)
  case qk => first | exact rfl | assumption
  case qxl => exact rfl
  case qxd => decide +kernel
  case qf => exact rfl
  case qz => first | exact Nat.le_of_ble_eq_true rfl | (simp only [List.length_cons, List.length_nil]; omega)
  case qsub => (intro p hp; repeat (first | exact hp | refine List.Mem.tail _ ?_))
  case qne => omega
  case qnews => first | exact all_ne (AllLt.mem' (by assumption)) (Nat.le_refl _) | exact fun p hp => Nat.ne_of_lt (AllLt.mem' (by assumption) p hp) | exact fun p hp => Nat.ne_of_lt ((by assumption : ∀ p ∈ news, p.1 < _) p hp) | (have h9 := (by assumption : _ ∧ AllLt _ news).2; exact fun p hp => Nat.ne_of_lt (AllLt.mem' h9 p hp))
  intro h1 es1 n1 tk1 kv1 kF1 kN1 fd1 ex1
  have kl1 := ex1.len
  simp only [List.length_cons, List.length_nil] at kl1
  simp only [List.drop_succ_cons, List.drop_zero]
  repeat ((fail_if_success (with_reducible show wpAny _ _ (execs (Stmt.Assign [Expr.Attribute _ (Str.ofString "queues") _] _ _ :: _) _) _ _ _)); (first | (k_unfold; (try dsimp only)) | (k_end; wrow_close) | walk1 | (dsimp only; walk1) | (leave1; walk_say "STEP leave1"; try dsimp only) | fail "no step"))
  refine' fields_n (x := Str.ofString "self") (specs := [(Str.ofString "queues", .obj), (Str.ofString "open", .obj), (Str.ofString "wake", .none), (Str.ofString "late", .none), (Str.ofString "call", .none), (Str.ofString "serving", .obj), (Str.ofString "masters", .obj), (Str.ofString "raised", .none), (Str.ofString "answer", .none), (Str.ofString "is_abnormal", .bool false), (Str.ofString "inside", .int 0), (Str.ofString "activator", .none), (Str.ofString "pending", .int 0), (Str.ofString "has_failed", .bool false), (Str.ofString "stack", .obj), (Str.ofString "frame", .none), (Str.ofString "result", .none), (Str.ofString "bases", .obj), (Str.ofString "caught", .obj), (Str.ofString "resume", .none), (Str.ofString "leaving", .none), (Str.ofString "line", .int 0)]) (news := news) 22 ?qX ?qF ?qN ?qx ?qa ?qb ?qH ?qsp ?qs ?qp ?qh ?qt ?qbig ?qk ?qxl ?qxd ?qf ?qz ?qsub ?qne ?qnews ?_
  case qF => k_asm
  case qN => k_asm
  case qx => exact rfl
  case qX => k_in
  case qa => k_mem
  case qb => k_mem
  case qH => exact (by assumption)
  case qsp => exact rfl
  case qs => k_is
  case qp => k_is
  case qh => k_is
  case qt => repeat (first | exact List.forall_mem_nil _ | (refine List.forall_mem_cons.mpr ⟨by k_is, ?_⟩))
  case qbig => exact Top.nolimit (by k_asm)
  case qk => first | exact rfl | assumption
  case qxl => exact rfl
  case qxd => decide +kernel
  case qf => exact rfl
  case qz => first | exact Nat.le_of_ble_eq_true rfl | (simp only [List.length_cons, List.length_nil]; omega)
  case qsub => (intro p hp; repeat (first | exact hp | refine List.Mem.tail _ ?_))
  case qne => omega
  case qnews => first | exact all_ne (AllLt.mem' (by assumption)) (Nat.le_refl _) | exact fun p hp => Nat.ne_of_lt (AllLt.mem' (by assumption) p hp) | exact fun p hp => Nat.ne_of_lt ((by assumption : ∀ p ∈ news, p.1 < _) p hp) | (have h9 := (by assumption : _ ∧ AllLt _ news).2; exact fun p hp => Nat.ne_of_lt (AllLt.mem' h9 p hp))
  intro h2 es2 n2 tk2 kv2 kF2 kN2 fd2 ex2
  have kl2 := ex2.len
  simp only [List.length_cons, List.length_nil] at kl2
  simp only [List.drop_succ_cons, List.drop_zero]
  k_steps
  (with_reducible rename Fr _ _ _ _ => kF9); (with_reducible rename News _ _ _ _ => kN9)
  obtain ⟨v1, q1, e1⟩ := ex2.idx (a := Str.ofString "frame") 15 rfl rfl
  exact ret x' d' es2 n2 v1 _ _ kF9 (cb2 kN9 (.tail _ (.head _)) (.head _) (fun p hp => .tail _ (.tail _ hp))) (fd2.get q1) (Nat.le_trans fd2.len (by omega)) (by first | assumption | exact AllLt.mem' (by assumption)) l2
end
end Mine
end
section
open PySem PySem.W PyProof.Rows PySem.Calls PySem.Spec
namespace Mine
local macro_rules | `(tactic| walk_at "none of mine") => `(tactic| skip)
local macro_rules | `(tactic| walk_at "setAttr ref") => `(tactic| (k_here; k_dflt (refine' set_fd (by k_asm) (by k_asm) (by k_asm) (by k_inst) (by exact rfl) (by k_is) (by k_is) (by k_is) (by k_is) (by first | assumption | exact FD.nil) (by first | exact Nat.le_of_ble_eq_true rfl | ((try simp only [List.length_cons]); omega)) (by k_updF) ?_); intro _ _ _ _ _ N' _; (try dsimp only at N')))
section
variable {w : World} {mean : ExcName → Option Value} {mg mb : Str → Option Value} {dp un : Nat} {gd : Option (List Code)} {cn : Str} {cs : Scope} {a : Addr} {ccd : Value} {cl : List (Str × Addr)} {outer : List Env} {A₀ : Around} {base h₀ : Heap} {L : Addr} {m : Str → Option Value} {s : Shared} {Q E : Value → Shared → Prop} {news : List (Addr × Obj)}
theorem cb3f {h : Heap} {all : List (Addr × Obj)} {a b c : Addr × Obj} (N : News h₀ L h all) (ha : a ∈ all) (hb : b ∈ all) (hc : c ∈ all) (sub : ∀ p ∈ news, p ∈ all) : News h₀ L h (a :: b :: c :: news) := fun p hp => by
  rcases List.mem_cons.mp hp with rfl | hp
  · exact N _ ha
  · rcases List.mem_cons.mp hp with rfl | hp
    · exact N _ hb
    · rcases List.mem_cons.mp hp with rfl | hp
      · exact N _ hc
      · exact N _ (sub _ hp)
set_option maxHeartbeats 8000000 in
theorem frame_ok {v : Value}
    (B : Below A₀ base outer h₀) (F : Fr h₀ L s.heap m) (X : (Mine.h0.heap_1_1 w.params).In h₀) (T : Top Mine.h0.view_1_2 (looseW Mine.h0.view_1_2 [Str.ofString "UNSET", Str.ofString "Limits", Str.ofString "_law_places"]) mean mg mb h₀) (hk : cs.kind = .function) (hd : dp + 8 < recursionLimit) (hu : un + 200 < cLine)
    (N : News h₀ L s.heap news)
    (ret : ∀ (e dx dn : Addr) (on : Obj) (es : List DictEntry) (n : Nat) (h' : Heap) (tk' : Nat), Fr h₀ L h' m → News h₀ L h' ((dx, dictOf es n) :: (e, instObj 211 dx) :: (dn, on) :: news) → getL (Str.ofString "names") es = some (some (.ref dn)) → getL (Str.ofString "parent") es = some (some v) → on.IsDictOf (PySem.strKind PySem.Challenge.rw_pp0008_01.row.prog w) [] → (dn == sysModules) = false → (∀ p ∈ news, p.1 < dx) → @LT.lt Nat _ dx e → @LT.lt Nat _ e dn → Q (.ref e) { s with heap := h', toks := tk' }) :
    wpAny (model PySem.Challenge.rw_pp0008_01.row.prog w) (ktrTop dp un gd cn cs L a ccd cl outer) (call (.ref 211) [v, .none]) Q E s := by
  revert X
  k_fill
  intro X
  k_dflt (refine' call_cls ?k1 ?k2 ?k3 ?k4 ?k5 ?k6 ?_; (case k1 => k_asm); (case k2 => k_asm); (case k3 => k_asm); (case k4 => k_is); (case k5 => k_is); (case k6 => k_is); k_whole; intro x' d' h' F' N' l1 l2; (try k_lt l1); (try k_lt2 l2); (try k_sweep))
  k_dflt cell_enter
  k_steps
  (with_reducible rename Fr _ _ _ _ => kF9); (with_reducible rename News _ _ _ _ => kN9)
  refine' ret x' d' _ _ _ _ _ _ kF9 (cb3f kN9 (.tail _ (.tail _ (.tail _ (.head _)))) (.tail _ (.tail _ (.head _))) (.tail _ (.head _)) (fun p hp => .tail _ (.tail _ (.tail _ (.tail _ hp))))) ?g1 ?g2 ?o ?z ?lt ?ne ?ne2
  case g1 => first | exact rfl | exact FD.get (by assumption) rfl | k_get
  case g2 => first | exact rfl | exact FD.get (by assumption) rfl | k_get
  case o => assumption
  case z => assumption
  case lt => first | assumption | exact AllLt.mem' (by assumption)
  case ne => omega
  case ne2 => omega
set_option maxHeartbeats 8000000 in
theorem lim_ok
    (B : Below A₀ base outer h₀) (F : Fr h₀ L s.heap m) (X : (Mine.h0.heap_1_1 w.params).In h₀) (T : Top Mine.h0.view_1_2 (looseW Mine.h0.view_1_2 [Str.ofString "UNSET", Str.ofString "Limits", Str.ofString "_law_places"]) mean mg mb h₀) (hk : cs.kind = .function) (hd : dp + 8 < recursionLimit) (hu : un + 200 < cLine)
    (N : News h₀ L s.heap news)
    (ret : ∀ (e : Addr) (h' : Heap) (tk' : Nat), Fr h₀ L h' m → News h₀ L h' news → Q (.ref e) { s with heap := h', toks := tk' }) :
    wpAny (model PySem.Challenge.rw_pp0008_01.row.prog w) (ktrTop dp un gd cn cs L a ccd cl outer) (call (.ref 254) []) Q E s := by
  revert X
  k_fill
  intro X
  k_dflt (refine' call_cls ?k1 ?k2 ?k3 ?k4 ?k5 ?k6 ?_; (case k1 => k_asm); (case k2 => k_asm); (case k3 => k_asm); (case k4 => k_is); (case k5 => k_is); (case k6 => k_is); k_whole; intro x' d' h' F' N' l1 l2; (try k_lt l1); (try k_lt2 l2); (try k_sweep))
  refine' code_def ?k1 ?k2 ?k3 ?k4 ?k5 ?kA ?kF ?kK ?k6 ?k7 ?k8 ?k9 ?kB ?_ ?c2 ?c3 ?c4 ?c5
  (case kA => exact rfl); (case kF => exact rfl); (case kK => assumption); (case k1 => k_asm); (case k2 => k_asm); (case k3 => k_asm); (case k4 => k_asm); (case k5 => k_asm); (case k6 => k_is); (case k7 => k_is)
  case k8 => ktr_room
  case k9 => exact binds_K (by k_in) rfl (by k_is) rfl rfl rfl
  (case c5 => decide); (case kB => exact locs rfl); (case c2 => exact rfl); (case c3 => exact rfl); (case c4 => exact rfl); k_whole
  intro g' L' h' FG' F' N' B' X' T'; (try dsimp only); (try k_lift B'); (try k_fold)
  k_steps
  (with_reducible rename Fr _ _ _ _ => kF9); (with_reducible rename News _ _ _ _ => kN9)
  exact ret _ _ _ kF9 (cb_drop kN9 (by intro p hp; repeat (first | exact hp | refine List.Mem.tail _ ?_)))
end
end Mine
end
section
open PySem PySem.W PyProof.Rows PySem.Calls PySem.Spec
namespace Mine
/-- the law's own data, out of the written part -/
noncomputable def lawData (P : Params) : Option FuncData := ((Mine.h0.heap_1_1 P).lookup 351).bind fun o => match o.data with | .func f => some f | _ => none
/-- the loop over the turns -/
noncomputable def turnsFor (P : Params) : Option Stmt := (lawData P).bind fun f => match f.body with
  | .stmts (_ :: _ :: _ :: _ :: _ :: _ :: _ :: st :: _) => some st
  | _ => none
noncomputable def turnBody (P : Params) : Option (List Stmt) := (turnsFor P).bind fun st => match st with
  | .For _ _ body _ _ => some body
  | _ => none
/-- between the turns of the law -/
def JT (prog : Program) (wo : World) (bx c : Addr) (S : List (Addr × Obj)) (m : Str → Option Value) (i : Nat) (m' : Str → Option Value) (nx : List (Addr × Obj)) : Prop :=
  (m' (Str.ofString "run") = m (Str.ofString "run") ∧ m' (Str.ofString "parents") = m (Str.ofString "parents") ∧ m' (Str.ofString "laid") = m (Str.ofString "laid")) ∧
  ∃ (ob' : Obj) (n' : Int) (tb' : Tok) (S' : List (Addr × Obj)), nx = (bx, ob') :: S' ∧ (∀ p ∈ S, p ∈ S') ∧ (∀ p ∈ S', p.1 ≠ bx) ∧ ob'.IsDictOf (PySem.strKind prog wo) [(Str.ofString "cells", Value.ref c), (Str.ofString "at", Value.int n' tb')] ∧ 0 ≤ n' ∧ n' ≤ 31 + 5 * (i : Nat)
section
variable {w : World} {A : Around} {E : Value → Shared → Prop} {s : Shared} {h₀ : Heap} {L : Addr} {m : Str → Option Value} {news : List (Addr × Obj)}
theorem words_item {value slice : PySem.Expr} {k : Int} {u : Tok} {Q : Value → Shared → Prop} (F : Fr h₀ L s.heap m) (X : (Mine.h0.heap_1_1 w.params).In h₀) (h0 : 0 ≤ k) (h3 : k < 3) (h : ∀ (i : Nat) t, i < 3 → Q (.str (wn i) t) s)
    (hs : ∀ k, subscripted slice false (.ref 322) (.int k u) = operate [.ref 322, .int k u] (getItem (.ref 322) (.int k u)) := by intro k; with_unfolding_all rfl) (hg : ∀ r, letTemporaryGo value (.ref 322) r = pure () := by intro _; with_unfolding_all rfl) :
    wpAny (model PySem.Challenge.rw_pp0008_01.row.prog w) A (subscriptTail value slice (.ref 322) (.int k u)) Q E s := by
  have hT : IsTup s.heap 322 [Value.str (Str.ofString "far") 755, .str (Str.ofString "one") 756, .str (Str.ofString "two") 757].toArray := ⟨_, (X.keeps F.keep) 322 _ (by rfl), rfl, _, rfl⟩
  rcases (by omega : k = 0 ∨ k = 1 ∨ k = 2) with rfl | rfl | rfl
  · exact item_tupleL hT (by decide) (by decide) rfl rfl (h 0 _ (by decide)) (hs 0) hg
  · exact item_tupleL hT (by decide) (by decide) rfl rfl (h 1 _ (by decide)) (hs 1) hg
  · exact item_tupleL hT (by decide) (by decide) rfl rfl (h 2 _ (by decide)) (hs 2) hg
end
/-- a list comprehension's element and scope -/
def compOf : Stmt → Option (Expr × Scope)
  | .Assign _ (.ListComp elt _ scope _) _ => some (elt, scope)
  | _ => none
noncomputable def eltOf (P : Params) (i : Nat) : Option (Expr × Scope) := (turnBody P).bind fun b => (b[i]?).bind compOf
noncomputable def callElt (P : Params) : Option (Expr × Scope) := (turnBody P).bind fun b => (b[5]?).bind fun st => match st with
  | .Try (.Assign _ (.Attribute (.Attribute (.Call _ (_ :: .ListComp elt _ scope _ :: _) _ _) _ _) _ _) _ :: _) _ _ _ _ => some (elt, scope)
  | _ => none
end Mine
end
local macro_rules | `(tactic| walk_at "subscriptTail Name Call ref int") => `(tactic| (k_here; (with_reducible show wpAny _ _ (subscriptTail _ _ (Value.ref 322) (Value.int _ _)) _ _ _); k_dflt (refine' words_item (by k_asm) (by k_asm) (by omega) (by omega) ?_); intro _ _ _))
section
open PySem PySem.W PyProof.Rows PySem.Calls PySem.Spec
namespace Mine
section
variable {w : World} {mean : ExcName → Option Value} {mg mb : Str → Option Value} {dp un : Nat} {gd : Option (List Code)} {cn : Str} {cs : Scope} {a : Addr} {ccd : Value} {cl : List (Str × Addr)} {outer : List Env} {A₀ : Around} {base h₀ : Heap} {L : Addr} {m : Str → Option Value} {s : Shared} {Q E : Value → Shared → Prop} {news : List (Addr × Obj)}
set_option maxHeartbeats 8000000 in
theorem rv_ok {ty fi : Addr}
    (B : Below A₀ base outer h₀) (F : Fr h₀ L s.heap m) (X : (Mine.h0.heap_1_1 w.params).In h₀) (T : Top Mine.h0.view_1_2 (looseW Mine.h0.view_1_2 [Str.ofString "UNSET", Str.ofString "Limits", Str.ofString "_law_places"]) mean mg mb h₀) (hk : cs.kind = .function) (hd : dp + 8 < recursionLimit) (hu : un + 200 < cLine)
    (N : News h₀ L s.heap news)
    (ret : ∀ (e dx : Addr) (es : List DictEntry) (n : Nat) (h' : Heap) (tk' : Nat), Fr h₀ L h' m → News h₀ L h' ((dx, dictOf es n) :: (e, instObj 136 dx) :: news) → getL (Str.ofString "type") es = some (some (.ref ty)) → es.length ≤ 100 → (∀ p ∈ news, p.1 < dx) → @LT.lt Nat _ dx e → Q (.ref e) { s with heap := h', toks := tk' }) :
    wpAny (model PySem.Challenge.rw_pp0008_01.row.prog w) (ktrTop dp un gd cn cs L a ccd cl outer) (call (.ref 136) [.ref ty, .ref fi]) Q E s := by
  revert X
  k_fill
  intro X
  k_dflt (refine' call_cls ?k1 ?k2 ?k3 ?k4 ?k5 ?k6 ?_; (case k1 => k_asm); (case k2 => k_asm); (case k3 => k_asm); (case k4 => k_is); (case k5 => k_is); (case k6 => k_is); k_whole; intro x' d' h' F' N' l1 l2; (try k_lt l1); (try k_lt2 l2); (try k_sweep))
  k_dflt cell_enter
  refine' fields_n (x := Str.ofString "self") (specs := [(Str.ofString "type", .loc (Str.ofString "t")), (Str.ofString "fields", .loc (Str.ofString "fields"))]) (news := news) 2 ?qX ?qF ?qN ?qx ?qa ?qb ?qH ?qsp ?qs ?qp ?qh ?qt ?qbig ?qk ?qxl ?qxd ?qf ?qz ?qsub ?qne ?qnews ?_
  case qF => k_asm
  case qN => k_asm
  case qx => exact rfl
  case qX => k_in
  case qa => k_mem
  case qb => k_mem
  case qH => exact FD.nil
  case qsp => exact rfl
  case qs => k_is
  case qp => k_is
  case qh => k_is
  case qt => repeat (first | exact List.forall_mem_nil _ | (refine List.forall_mem_cons.mpr ⟨by k_is, ?_⟩))
  case qbig => exact Top.nolimit (by k_asm)
  case qk => first | exact rfl | assumption
  case qxl => exact rfl
  case qxd => decide +kernel
  case qf => exact rfl
  case qz => first | exact Nat.le_of_ble_eq_true rfl | (simp only [List.length_cons, List.length_nil]; omega)
  case qsub => (intro p hp; repeat (first | exact hp | refine List.Mem.tail _ ?_))
  case qne => omega
  case qnews => first | exact all_ne (AllLt.mem' (by assumption)) (Nat.le_refl _) | exact fun p hp => Nat.ne_of_lt (AllLt.mem' (by assumption) p hp) | exact fun p hp => Nat.ne_of_lt ((by assumption : ∀ p ∈ news, p.1 < _) p hp) | (have h9 := (by assumption : _ ∧ AllLt _ news).2; exact fun p hp => Nat.ne_of_lt (AllLt.mem' h9 p hp))
  intro h1 es1 n1 tk1 kv1 kF1 kN1 fd1 ex1
  have kl1 := ex1.len
  simp only [List.length_cons, List.length_nil] at kl1
  simp only [List.drop_succ_cons, List.drop_zero]
  k_steps
  (with_reducible rename Fr _ _ _ _ => kF9); (with_reducible rename News _ _ _ _ => kN9)
  obtain ⟨v1, q1, e1⟩ := ex1.idx (a := Str.ofString "type") 0 rfl rfl
  obtain rfl : Value.ref ty = v1 := Option.some.inj e1
  exact ret x' d' es1 n1 _ _ kF9 (cb2 kN9 (.tail _ (.head _)) (.head _) (fun p hp => .tail _ (.tail _ hp))) (fd1.get q1) (Nat.le_trans fd1.len (by rw [ex1.len]; decide)) (by first | assumption | exact AllLt.mem' (by assumption)) l2
end
end Mine
end
local macro_rules | `(tactic| walk_at "call ref") => `(tactic| (k_here; (with_reducible show wpAny _ _ (call (Value.ref 136) _) _ _ _); k_dflt (refine' rv_ok (by k_asm) (by k_asm) (by k_asm) (by k_asm) (by first | rfl | assumption) (by ktr_room) (by ktr_units) (by k_asm) ?_; intro _ _ _ _ _ _ _ _ _ _ hlt' _; (try k_lt hlt'))))
section
open PySem PySem.W PyProof.Rows PySem.Calls PySem.Spec
namespace Mine
local macro_rules | `(tactic| walk_at "subscriptTail Name Name ref int") => `(tactic| (k_here; (with_reducible show wpAny _ _ (subscriptTail _ _ (Value.ref _) (Value.int _ _)) _ _ _); k_dflt (refine' item_led (by k_asm) (by k_mem) (by omega) (by omega) (by assumption) ?_; k_whole)))
local macro_rules | `(tactic| walk_at "eval Name") => `(tactic| (k_here; (with_reducible show wpAny _ _ (eval (Expr.Name _ _) (compEnvC _ _ _ _)) _ _ _); k_dflt (first
  | refine LCgL.ld_own (by k_asm) (by k_mem) (by assumption) (by assumption) ?_
  | (refine' lcf_cell (by k_asm) (by rfl) (by k_mem) (by assumption) ?_ (by rfl) (by rfl); k_whole))))
section
variable {w : World} {mean : ExcName → Option Value} {mg mb : Str → Option Value} {dp un : Nat} {gd : Option (List Code)} {a : Addr} {ccd : Value} {outer : List Env} {A₀ : Around} {base g : Heap} {L : Addr} {m m₂ : Str → Option Value} {s : Shared} {E : Value → Shared → Prop}
    {elt : Expr} {scope : Scope} {fd : FuncData} {bx c cb ct I C D tl : Addr} {S news : List (Addr × Obj)} {vs : List Value} {ns : List Int} {nc nl : Nat} {ob ocb oct oI oC oD : Obj} {tb t : Tok} {n k : Int} {v : Value} {Ssrc : List (Addr × Obj) → Prop} {rest : Value → List (Addr × Obj) → Prop} {T : Nat → Addr}
set_option maxHeartbeats 8000000 in
theorem codes_step (hel : eltOf w.params 1 = some (elt, scope)) (hfd : lawData w.params = some fd)
    (B : Below A₀ base outer g) (F : Fr g L s.heap m) (X : (Mine.h0.heap_1_1 w.params).In g) (T9 : Top Mine.h0.view_1_2 (looseW Mine.h0.view_1_2 [Str.ofString "UNSET", Str.ofString "Limits", Str.ofString "_law_places"]) mean mg mb g) (hd : dp + 60 < recursionLimit) (hu : un + 1000 < cLine)
    (N : News g L s.heap ((I, oI) :: (C, oC) :: (D, oD) :: (bx, ob) :: S)) (hC : LCg.NsObj oC m₂) (hx : m₂ (Str.ofString "place") = some v) (off : LCg.Off3 I C D ((bx, ob) :: S)) (hS : ∀ ob', Ssrc ((bx, ob') :: S)) (offb : ∀ p ∈ S, p.1 ≠ bx)
    (hob : ob.IsDictOf (PySem.strKind PySem.Challenge.rw_pp0008_01.row.prog w) [(Str.ofString "cells", Value.ref c), (Str.ofString "at", Value.int n tb)]) (n0 : 0 ≤ n) (n1 : n ≤ 900) (hI : IntsAre vs ns) (hln : ns.length ≤ 60) (hc : (c, W.listOf vs.toArray nc) ∈ S) (hlb : (bx == sysModules) = false) (mcb : (cb, ocb) ∈ S) (dcb : ocb.data = .cell (some (.ref bx)))
    (go : ∀ (r : Int) (t t' : Tok) (ob' : Obj), 0 ≤ r → r < 5 → ob'.IsDictOf (PySem.strKind PySem.Challenge.rw_pp0008_01.row.prog w) [(Str.ofString "cells", Value.ref c), (Str.ofString "at", Value.int (n + 1) t')] → rest (.int r t) ((bx, ob') :: S)) :
    wpAny (model PySem.Challenge.rw_pp0008_01.row.prog w) (ktrTop dp un gd (Str.ofString "law") fd.scope L a ccd [(Str.ofString "types", ct), (Str.ofString "box", cb)] outer) (eval elt (compEnvC scope [(Str.ofString "box", cb)] C (envX (Str.ofString "law") fd.scope L a ccd [(Str.ofString "types", ct), (Str.ofString "box", cb)]))) (LCg.CompEnd g L m s I oI C oC D oD Ssrc rest) E s := by
  have e : some (elt, scope) = some _ := hel.symm.trans rfl
  injection e with e
  injection e with e e'
  subst e
  subst e'
  have e : some fd = some _ := hfd.symm.trans rfl
  injection e with e
  subst e
  clear hel hfd
  dsimp only
  obtain ⟨⟨o1, o2, o3⟩, offS⟩ := off
  have q1 : ∀ p ∈ S, p.1 ≠ I := fun p hp => (LCg.Off3.mem offS p hp).1
  have q2 : ∀ p ∈ S, p.1 ≠ C := fun p hp => (LCg.Off3.mem offS p hp).2.1
  have q3 : ∀ p ∈ S, p.1 ≠ D := fun p hp => (LCg.Off3.mem offS p hp).2.2
  revert X
  k_fill
  intro X
  k_steps
  (with_reducible rename Fr _ _ _ _ => kF9); (with_reducible rename News _ _ _ _ => kN9)
  refine' LCg.CompEnd.intro kF9 kN9 _ ?s ?o ?S (go _ _ _ _ ?h1 ?h2 ?h3)
  case h3 => assumption
  case h1 => assumption
  case h2 => assumption
  case o => exact ⟨⟨o1, o2, o3⟩, offS⟩
  case S => exact hS _
  case s =>
    intro p hp
    repeat (first | exact hp | refine List.Mem.tail _ ?_)
set_option maxHeartbeats 8000000 in
theorem tags_step (hel : eltOf w.params 2 = some (elt, scope)) (hfd : lawData w.params = some fd)
    (B : Below A₀ base outer g) (F : Fr g L s.heap m) (X : (Mine.h0.heap_1_1 w.params).In g) (T9 : Top Mine.h0.view_1_2 (looseW Mine.h0.view_1_2 [Str.ofString "UNSET", Str.ofString "Limits", Str.ofString "_law_places"]) mean mg mb g) (hd : dp + 60 < recursionLimit) (hu : un + 1000 < cLine)
    (N : News g L s.heap ((I, oI) :: (C, oC) :: (D, oD) :: news)) (hC : LCg.NsObj oC m₂) (hx : m₂ (Str.ofString "code") = some (.int k t)) (off : LCg.Off3 I C D news) (hS : Ssrc news)
    (go : rest (tagv k t) news) :
    wpAny (model PySem.Challenge.rw_pp0008_01.row.prog w) (ktrTop dp un gd (Str.ofString "law") fd.scope L a ccd [(Str.ofString "types", ct), (Str.ofString "box", cb)] outer) (eval elt (compEnvC scope [] C (envX (Str.ofString "law") fd.scope L a ccd [(Str.ofString "types", ct), (Str.ofString "box", cb)]))) (LCg.CompEnd g L m s I oI C oC D oD Ssrc rest) E s := by
  have e : some (elt, scope) = some _ := hel.symm.trans rfl
  injection e with e
  injection e with e e'
  subst e
  subst e'
  have e : some fd = some _ := hfd.symm.trans rfl
  injection e with e
  subst e
  clear hel hfd
  dsimp only
  revert X
  k_fill
  intro X
  rcases Int.lt_or_le k 3 with h3 | h3
  · rw [tagv_lt h3] at go
    k_steps
    (with_reducible rename Fr _ _ _ _ => kF9); (with_reducible rename News _ _ _ _ => kN9)
    exact LCg.CompEnd.intro kF9 kN9 news (fun p hp => hp) off hS go
  · rw [tagv_ge (by omega)] at go
    k_steps
    (with_reducible rename Fr _ _ _ _ => kF9); (with_reducible rename News _ _ _ _ => kN9)
    exact LCg.CompEnd.intro kF9 kN9 news (fun p hp => hp) off hS go
theorem val_end {h' : Heap} {tk : Nat} {dx e d : Addr} {es : List DictEntry} {ne : Nat} {od : Obj} (F : Fr g L h' m) (N : News g L h' ((dx, dictOf es ne) :: (e, instObj 136 dx) :: (d, od) :: (I, oI) :: (C, oC) :: (D, oD) :: news)) (off : LCg.Off3 I C D news) (hS : ∀ ext, Ssrc (ext ++ news)) (h3 : k < 3)
    (go : ∀ v ext, (∀ p ∈ ext, ∀ q ∈ news, @LT.lt Nat _ q.1 p.1) → ValIs ext T k v → rest v (ext ++ news))
    (a1 : @LT.lt Nat _ I d) (a2 : @LT.lt Nat _ C d) (a3 : @LT.lt Nat _ D d) (a4 : AllLt d news) (a5 : @LT.lt Nat _ d dx) (a6 : @LT.lt Nat _ dx e) (hty : getL (Str.ofString "type") es = some (some (.ref (T k.toNat)))) :
    LCg.CompEnd g L m s I oI C oC D oD Ssrc rest (.ref e) { s with heap := h', toks := tk } := by
  have hA := AllLt.mem' a4
  refine LCg.CompEnd.intro F N ([(dx, dictOf es ne), (e, instObj 136 dx), (d, od)] ++ news) (fun p hp => ?_) (LCg.Off3.of fun p hp => ?_) (hS _) (go _ _ (fun p hp q hq => ?_) (.inl ⟨h3, e, dx, es, ne, rfl, .tail _ (.head _), .head _, hty⟩))
  · simp only [List.cons_append, List.nil_append, List.mem_cons] at hp ⊢
    rcases hp with h | h | h | h | h | h | h <;> simp only [h, true_or, or_true]
  · simp only [List.cons_append, List.nil_append, List.mem_cons] at hp
    rcases hp with rfl | rfl | rfl | h
    · refine ⟨?_, ?_, ?_⟩ <;> show @Ne Nat _ _ <;> dsimp only <;> omega
    · refine ⟨?_, ?_, ?_⟩ <;> show @Ne Nat _ _ <;> dsimp only <;> omega
    · refine ⟨?_, ?_, ?_⟩ <;> show @Ne Nat _ _ <;> dsimp only <;> omega
    · exact LCg.Off3.mem off p h
  · have hq' : @LT.lt Nat _ q.1 d := hA q hq
    simp only [List.mem_cons, List.not_mem_nil, or_false] at hp
    rcases hp with rfl | rfl | rfl <;> dsimp only <;> omega
theorem val_no {h' : Heap} {tk : Nat} (F : Fr g L h' m) (N : News g L h' ((I, oI) :: (C, oC) :: (D, oD) :: news)) (off : LCg.Off3 I C D news) (hS : ∀ ext, Ssrc (ext ++ news)) (h3 : 3 ≤ k)
    (go : ∀ v ext, (∀ p ∈ ext, ∀ q ∈ news, @LT.lt Nat _ q.1 p.1) → ValIs ext T k v → rest v (ext ++ news)) (hv : (∃ t, v = .int 7 t) ∨ v = .ref 90) :
    LCg.CompEnd g L m s I oI C oC D oD Ssrc rest v { s with heap := h', toks := tk } :=
  LCg.CompEnd.intro F N news (fun p hp => hp) off (hS []) (go v [] (fun p hp => nomatch hp) (.inr ⟨h3, hv⟩))
set_option maxHeartbeats 8000000 in
theorem vals_step (hel : eltOf w.params 3 = some (elt, scope)) (hfd : lawData w.params = some fd)
    (B : Below A₀ base outer g) (F : Fr g L s.heap m) (X : (Mine.h0.heap_1_1 w.params).In g) (T9 : Top Mine.h0.view_1_2 (looseW Mine.h0.view_1_2 [Str.ofString "UNSET", Str.ofString "Limits", Str.ofString "_law_places"]) mean mg mb g) (hd : dp + 60 < recursionLimit) (hu : un + 1000 < cLine)
    (N : News g L s.heap ((I, oI) :: (C, oC) :: (D, oD) :: news)) (hC : LCg.NsObj oC m₂) (hx : m₂ (Str.ofString "code") = some (.int k t)) (off : LCg.Off3 I C D news) (hS : ∀ ext, Ssrc (ext ++ news)) (k0 : 0 ≤ k)
    (mct : (ct, oct) ∈ news) (dct : oct.data = .cell (some (.ref tl))) (htl : (tl, W.listOf [.ref (T 0), .ref (T 1), .ref (T 2)].toArray nl) ∈ news)
    (go : ∀ v ext, (∀ p ∈ ext, ∀ q ∈ news, @LT.lt Nat _ q.1 p.1) → ValIs ext T k v → rest v (ext ++ news)) :
    wpAny (model PySem.Challenge.rw_pp0008_01.row.prog w) (ktrTop dp un gd (Str.ofString "law") fd.scope L a ccd [(Str.ofString "types", ct), (Str.ofString "box", cb)] outer) (eval elt (compEnvC scope [(Str.ofString "types", ct)] C (envX (Str.ofString "law") fd.scope L a ccd [(Str.ofString "types", ct), (Str.ofString "box", cb)]))) (LCg.CompEnd g L m s I oI C oC D oD Ssrc rest) E s := by
  have e : some (elt, scope) = some _ := hel.symm.trans rfl
  injection e with e
  injection e with e e'
  subst e
  subst e'
  have e : some fd = some _ := hfd.symm.trans rfl
  injection e with e
  subst e
  clear hel hfd
  dsimp only
  revert X
  k_fill
  intro X
  rcases Int.lt_or_le k 3 with h3 | h3
  · have hit : [Value.ref (T 0), .ref (T 1), .ref (T 2)][k.toNat]? = some (.ref (T k.toNat)) := by
      have h := three_get (f := fun i => Value.ref (T i)) (q := k.toNat) (by omega)
      rw [Int.toNat_natCast] at h
      exact h
    k_steps
    (with_reducible rename Fr _ _ _ _ => kF9); (with_reducible rename News _ _ _ _ => kN9)
    exact val_end kF9 kN9 off hS h3 go (by omega) (by omega) (by omega) (by assumption : _ ∧ _ ∧ _ ∧ AllLt _ news).2.2.2 (by omega) (by omega) (by assumption)
  · rcases (by omega : k = 3 ∨ 3 < k) with rfl | h4
    · k_steps
      (with_reducible rename Fr _ _ _ _ => kF9); (with_reducible rename News _ _ _ _ => kN9)
      exact val_no kF9 kN9 off hS h3 go (.inl ⟨_, rfl⟩)
    · k_steps
      · exfalso; omega
      · (with_reducible rename Fr _ _ _ _ => kF9); (with_reducible rename News _ _ _ _ => kN9)
        exact val_no kF9 kN9 off hS h3 go (.inr rfl)
end
end Mine
end
section
open PySem PySem.W PyProof.Rows PySem.Calls PySem.Spec
namespace Mine
local macro_rules | `(tactic| walk_at "none of mine") => `(tactic| skip)
local macro_rules | `(tactic| walk_at "subscriptTail Name Name ref int") => `(tactic| (k_here; (with_reducible show wpAny _ _ (subscriptTail _ _ (Value.ref _) (Value.int _ _)) _ _ _); k_dflt (refine' item_led (by k_asm) (by k_mem) (by omega) (by omega) (by assumption) ?_; k_whole)))
local macro_rules | `(tactic| walk_at "eval Name") => `(tactic| (k_here; (with_reducible show wpAny _ _ (eval (Expr.Name _ _) (compEnvC _ _ _ _)) _ _ _); k_dflt (first
  | refine LCgL.ld_own (by k_asm) (by k_mem) (by assumption) (by assumption) ?_
  | (refine' lcf_cell (by k_asm) (by rfl) (by k_mem) (by assumption) ?_ (by rfl) (by rfl); k_whole))))
section
variable {w : World} {mean : ExcName → Option Value} {mg mb : Str → Option Value} {dp un : Nat} {gd : Option (List Code)} {a : Addr} {ccd : Value} {outer : List Env} {A₀ : Around} {base g : Heap} {L : Addr} {m m₂ : Str → Option Value} {s : Shared} {E : Value → Shared → Prop}
    {elt : Expr} {scope : Scope} {fd : FuncData} {bx c cb ct I C D tl : Addr} {S news : List (Addr × Obj)} {vs : List Value} {ns : List Int} {nc nl : Nat} {ob ocb oct oI oC oD : Obj} {tb t : Tok} {n k : Int} {v : Value} {Ssrc : List (Addr × Obj) → Prop} {rest : Value → List (Addr × Obj) → Prop} {T : Nat → Addr}
theorem tup_end {h' : Heap} {tk nt : Nat} {ta : Addr} (F : Fr g L h' m) (N : News g L h' ((ta, tupO [v, .none, .none] nt) :: (I, oI) :: (C, oC) :: (D, oD) :: news)) (off : LCg.Off3 I C D news) (hS : ∀ p, Ssrc (p :: news))
    (go : ∀ ta nt, (∀ q ∈ news, @LT.lt Nat _ q.1 ta) → rest (.ref ta) ((ta, tupO [v, .none, .none] nt) :: news))
    (a1 : @LT.lt Nat _ I ta) (a2 : @LT.lt Nat _ C ta) (a3 : @LT.lt Nat _ D ta) (a4 : AllLt ta news) :
    LCg.CompEnd g L m s I oI C oC D oD Ssrc rest (.ref ta) { s with heap := h', toks := tk } := by
  refine LCg.CompEnd.intro F N ((ta, tupO [v, .none, .none] nt) :: news) (fun p hp => ?_) ⟨⟨?_, ?_, ?_⟩, off⟩ (hS _) (go _ _ (AllLt.mem' a4))
  · simp only [List.mem_cons] at hp ⊢
    rcases hp with h | h | h | h | h <;> simp only [h, true_or, or_true]
  · dsimp only; omega
  · dsimp only; omega
  · dsimp only; omega
set_option maxHeartbeats 8000000 in
theorem tup_step (hel : callElt w.params = some (elt, scope)) (hfd : lawData w.params = some fd)
    (B : Below A₀ base outer g) (F : Fr g L s.heap m) (X : (Mine.h0.heap_1_1 w.params).In g) (T9 : Top Mine.h0.view_1_2 (looseW Mine.h0.view_1_2 [Str.ofString "UNSET", Str.ofString "Limits", Str.ofString "_law_places"]) mean mg mb g) (hd : dp + 60 < recursionLimit) (hu : un + 1000 < cLine)
    (N : News g L s.heap ((I, oI) :: (C, oC) :: (D, oD) :: news)) (hC : LCg.NsObj oC m₂) (hx : m₂ (Str.ofString "value") = some v) (off : LCg.Off3 I C D news) (hS : ∀ p, Ssrc (p :: news))
    (go : ∀ ta nt, (∀ q ∈ news, @LT.lt Nat _ q.1 ta) → rest (.ref ta) ((ta, tupO [v, .none, .none] nt) :: news)) :
    wpAny (model PySem.Challenge.rw_pp0008_01.row.prog w) (ktrTop dp un gd (Str.ofString "law") fd.scope L a ccd [(Str.ofString "types", ct), (Str.ofString "box", cb)] outer) (eval elt (compEnvC scope [] C (envX (Str.ofString "law") fd.scope L a ccd [(Str.ofString "types", ct), (Str.ofString "box", cb)]))) (LCg.CompEnd g L m s I oI C oC D oD Ssrc rest) E s := by
  have e : some (elt, scope) = some _ := hel.symm.trans rfl
  injection e with e
  injection e with e e'
  subst e
  subst e'
  have e : some fd = some _ := hfd.symm.trans rfl
  injection e with e
  subst e
  clear hel hfd
  dsimp only
  revert X
  k_fill
  intro X
  k_steps
  (with_reducible rename Fr _ _ _ _ => kF9); (with_reducible rename News _ _ _ _ => kN9)
  exact tup_end kF9 kN9 off hS go (by omega) (by omega) (by omega) (by assumption : _ ∧ _ ∧ _ ∧ AllLt _ news).2.2.2
theorem codes_all {Fin : List Value → List (Addr × Obj) → Prop} {P : Nat → Value → Prop} (hel : eltOf w.params 1 = some (elt, scope)) (hfd : lawData w.params = some fd)
    (B : Below A₀ base outer g) (X : (Mine.h0.heap_1_1 w.params).In g) (T9 : Top Mine.h0.view_1_2 (looseW Mine.h0.view_1_2 [Str.ofString "UNSET", Str.ofString "Limits", Str.ofString "_law_places"]) mean mg mb g) (hd : dp + 60 < recursionLimit) (hu : un + 1000 < cLine)
    (offb : ∀ p ∈ S, p.1 ≠ bx) (hob : ob.IsDictOf (PySem.strKind PySem.Challenge.rw_pp0008_01.row.prog w) [(Str.ofString "cells", Value.ref c), (Str.ofString "at", Value.int n tb)]) (n0 : 0 ≤ n) (n1 : n ≤ 800) (hI : IntsAre vs ns) (hln : ns.length ≤ 60) (hc : (c, W.listOf vs.toArray nc) ∈ S) (hlb : (bx == sysModules) = false) (mcb : (cb, ocb) ∈ S) (dcb : ocb.data = .cell (some (.ref bx)))
    (fin : ∀ (r0 r1 r2 : Int) (t0 t1 t2 t' : Tok) (ob' : Obj), 0 ≤ r0 → r0 < 5 → 0 ≤ r1 → r1 < 5 → 0 ≤ r2 → r2 < 5 → ob'.IsDictOf (PySem.strKind PySem.Challenge.rw_pp0008_01.row.prog w) [(Str.ofString "cells", Value.ref c), (Str.ofString "at", Value.int (n + 1 + 1 + 1) t')] → Fin [.int r0 t0, .int r1 t1, .int r2 t2] ((bx, ob') :: S)) :
    LCg.CompRest PySem.Challenge.rw_pp0008_01.row.prog w (ktrTop dp un gd (Str.ofString "law") fd.scope L a ccd [(Str.ofString "types", ct), (Str.ofString "box", cb)] outer) g L m (envX (Str.ofString "law") fd.scope L a ccd [(Str.ofString "types", ct), (Str.ofString "box", cb)]) elt (Str.ofString "place") scope [(Str.ofString "box", cb)] s (fun _ => True) P Fin 3 0 [] ((bx, ob) :: S) := by
  refine LCg.CompRest.succ ?_
  intro v I oI C oC D m₂ h tk E' hP hC hx F N off ne
  refine codes_step hel hfd B F X T9 hd hu N hC hx off (fun _ => trivial) offb hob n0 (by omega) hI hln hc hlb mcb dcb fun r0 t0 u0 ob0 a0 b0 hob0 => ?_
  refine LCg.CompRest.succ ?_
  intro v I oI C oC D m₂ h tk E' hP hC hx F N off ne
  refine codes_step hel hfd B F X T9 hd hu N hC hx off (fun _ => trivial) offb hob0 (by omega) (by omega) hI hln hc hlb mcb dcb fun r1 t1 u1 ob1 a1 b1 hob1 => ?_
  refine LCg.CompRest.succ ?_
  intro v I oI C oC D m₂ h tk E' hP hC hx F N off ne
  refine codes_step hel hfd B F X T9 hd hu N hC hx off (fun _ => trivial) offb hob1 (by omega) (by omega) hI hln hc hlb mcb dcb fun r2 t2 u2 ob2 a2 b2 hob2 => ?_
  exact fin r0 r1 r2 t0 t1 t2 u2 ob2 a0 b0 a1 b1 a2 b2 hob2
theorem tags_all {Fin : List Value → List (Addr × Obj) → Prop} {k0 k1 k2 : Int} {t0 t1 t2 : Tok} (hel : eltOf w.params 2 = some (elt, scope)) (hfd : lawData w.params = some fd)
    (B : Below A₀ base outer g) (X : (Mine.h0.heap_1_1 w.params).In g) (T9 : Top Mine.h0.view_1_2 (looseW Mine.h0.view_1_2 [Str.ofString "UNSET", Str.ofString "Limits", Str.ofString "_law_places"]) mean mg mb g) (hd : dp + 60 < recursionLimit) (hu : un + 1000 < cLine)
    (hS : Ssrc news) (fin : Fin [tagv k0 t0, tagv k1 t1, tagv k2 t2] news) :
    LCg.CompRest PySem.Challenge.rw_pp0008_01.row.prog w (ktrTop dp un gd (Str.ofString "law") fd.scope L a ccd [(Str.ofString "types", ct), (Str.ofString "box", cb)] outer) g L m (envX (Str.ofString "law") fd.scope L a ccd [(Str.ofString "types", ct), (Str.ofString "box", cb)]) elt (Str.ofString "code") scope [] s Ssrc (fun i v => [Value.int k0 t0, .int k1 t1, .int k2 t2].toArray[i]? = some v) Fin 3 0 [] news := by
  refine LCg.CompRest.succ ?_
  intro v I oI C oC D m₂ h tk E' hP hC hx F N off ne
  obtain rfl : Value.int k0 t0 = v := Option.some.inj hP
  refine tags_step hel hfd B F X T9 hd hu N hC hx off hS ?_
  refine LCg.CompRest.succ ?_
  intro v I oI C oC D m₂ h tk E' hP hC hx F N off ne
  obtain rfl : Value.int k1 t1 = v := Option.some.inj hP
  refine tags_step hel hfd B F X T9 hd hu N hC hx off hS ?_
  refine LCg.CompRest.succ ?_
  intro v I oI C oC D m₂ h tk E' hP hC hx F N off ne
  obtain rfl : Value.int k2 t2 = v := Option.some.inj hP
  exact tags_step hel hfd B F X T9 hd hu N hC hx off hS fin
theorem ValIs.mono {news' : List (Addr × Obj)} (H : ValIs news T k v) (sub : ∀ p ∈ news, p ∈ news') : ValIs news' T k v := by
  rcases H with ⟨h, V, DV, es, n, e, h1, h2, h3⟩ | h
  · exact .inl ⟨h, V, DV, es, n, e, sub _ h1, sub _ h2, h3⟩
  · exact .inr h
theorem vals_all {Fin : List Value → List (Addr × Obj) → Prop} {k0 k1 k2 : Int} {t0 t1 t2 : Tok} (hel : eltOf w.params 3 = some (elt, scope)) (hfd : lawData w.params = some fd)
    (B : Below A₀ base outer g) (X : (Mine.h0.heap_1_1 w.params).In g) (T9 : Top Mine.h0.view_1_2 (looseW Mine.h0.view_1_2 [Str.ofString "UNSET", Str.ofString "Limits", Str.ofString "_law_places"]) mean mg mb g) (hd : dp + 60 < recursionLimit) (hu : un + 1000 < cLine)
    (hS : ∀ ext, Ssrc (ext ++ news)) (p0 : 0 ≤ k0) (p1 : 0 ≤ k1) (p2 : 0 ≤ k2) (mct : (ct, oct) ∈ news) (dct : oct.data = .cell (some (.ref tl))) (htl : (tl, W.listOf [.ref (T 0), .ref (T 1), .ref (T 2)].toArray nl) ∈ news)
    (fin : ∀ v0 v1 v2 ext, (∀ p ∈ ext, ∀ q ∈ news, @LT.lt Nat _ q.1 p.1) → ValIs ext T k0 v0 → ValIs ext T k1 v1 → ValIs ext T k2 v2 → Fin [v0, v1, v2] (ext ++ news)) :
    LCg.CompRest PySem.Challenge.rw_pp0008_01.row.prog w (ktrTop dp un gd (Str.ofString "law") fd.scope L a ccd [(Str.ofString "types", ct), (Str.ofString "box", cb)] outer) g L m (envX (Str.ofString "law") fd.scope L a ccd [(Str.ofString "types", ct), (Str.ofString "box", cb)]) elt (Str.ofString "code") scope [(Str.ofString "types", ct)] s Ssrc (fun i v => [Value.int k0 t0, .int k1 t1, .int k2 t2].toArray[i]? = some v) Fin 3 0 [] news := by
  refine LCg.CompRest.succ ?_
  intro v I oI C oC D m₂ h tk E' hP hC hx F N off ne
  obtain rfl : Value.int k0 t0 = v := Option.some.inj hP
  refine vals_step hel hfd B F X T9 hd hu N hC hx off hS p0 mct dct htl fun v0 x0 g0 w0 => ?_
  refine LCg.CompRest.succ ?_
  intro v I oI C oC D m₂ h tk E' hP hC hx F N off ne
  obtain rfl : Value.int k1 t1 = v := Option.some.inj hP
  refine vals_step hel hfd B F X T9 hd hu N hC hx off (fun ext => by rw [← List.append_assoc]; exact hS _) p1 (List.mem_append_right _ mct) dct (List.mem_append_right _ htl) fun v1 x1 g1 w1 => ?_
  refine LCg.CompRest.succ ?_
  intro v I oI C oC D m₂ h tk E' hP hC hx F N off ne
  obtain rfl : Value.int k2 t2 = v := Option.some.inj hP
  refine vals_step hel hfd B F X T9 hd hu N hC hx off (fun ext => by rw [← List.append_assoc, ← List.append_assoc]; exact hS _) p2 (List.mem_append_right _ (List.mem_append_right _ mct)) dct (List.mem_append_right _ (List.mem_append_right _ htl)) fun v2 x2 g2 w2 => ?_
  have e : x2 ++ (x1 ++ (x0 ++ news)) = (x2 ++ (x1 ++ x0)) ++ news := by simp only [List.append_assoc]
  have z0 := w0.mono (fun p hp => List.mem_append_right x2 (List.mem_append_right x1 hp))
  have z1 := w1.mono (fun p hp => List.mem_append_right x2 (List.mem_append_left x0 hp))
  have z2 := w2.mono (fun p hp => List.mem_append_left (x1 ++ x0) hp)
  rw [e]
  refine fin v0 v1 v2 _ (fun p hp q hq => ?_) z0 z1 z2
  rcases List.mem_append.mp hp with hp | hp
  · exact g2 p hp q (List.mem_append_right _ (List.mem_append_right _ hq))
  · rcases List.mem_append.mp hp with hp | hp
    · exact g1 p hp q (List.mem_append_right _ hq)
    · exact g0 p hp q hq
theorem tups_all {Fin : List Value → List (Addr × Obj) → Prop} {v0 v1 v2 : Value} (hel : callElt w.params = some (elt, scope)) (hfd : lawData w.params = some fd)
    (B : Below A₀ base outer g) (X : (Mine.h0.heap_1_1 w.params).In g) (T9 : Top Mine.h0.view_1_2 (looseW Mine.h0.view_1_2 [Str.ofString "UNSET", Str.ofString "Limits", Str.ofString "_law_places"]) mean mg mb g) (hd : dp + 60 < recursionLimit) (hu : un + 1000 < cLine)
    (hS : ∀ ext, Ssrc (ext ++ news))
    (fin : ∀ a0 a1 a2 n0 n1 n2, (∀ q ∈ news, @LT.lt Nat _ q.1 a0) → @LT.lt Nat _ a0 a1 → @LT.lt Nat _ a1 a2 → Fin [.ref a0, .ref a1, .ref a2] ((a2, tupO [v2, .none, .none] n2) :: (a1, tupO [v1, .none, .none] n1) :: (a0, tupO [v0, .none, .none] n0) :: news)) :
    LCg.CompRest PySem.Challenge.rw_pp0008_01.row.prog w (ktrTop dp un gd (Str.ofString "law") fd.scope L a ccd [(Str.ofString "types", ct), (Str.ofString "box", cb)] outer) g L m (envX (Str.ofString "law") fd.scope L a ccd [(Str.ofString "types", ct), (Str.ofString "box", cb)]) elt (Str.ofString "value") scope [] s Ssrc (fun i v => [v0, v1, v2].toArray[i]? = some v) Fin 3 0 [] news := by
  refine LCg.CompRest.succ ?_
  intro v I oI C oC D m₂ h tk E' hP hC hx F N off ne
  obtain rfl : v0 = v := Option.some.inj hP
  refine tup_step hel hfd B F X T9 hd hu N hC hx off (fun p => hS [p]) fun a0 n0 g0 => ?_
  refine LCg.CompRest.succ ?_
  intro v I oI C oC D m₂ h tk E' hP hC hx F N off ne
  obtain rfl : v1 = v := Option.some.inj hP
  refine tup_step hel hfd B F X T9 hd hu N hC hx off (fun p => hS [p, _]) fun a1 n1 g1 => ?_
  refine LCg.CompRest.succ ?_
  intro v I oI C oC D m₂ h tk E' hP hC hx F N off ne
  obtain rfl : v2 = v := Option.some.inj hP
  refine tup_step hel hfd B F X T9 hd hu N hC hx off (fun p => hS [p, _, _]) fun a2 n2 g2 => ?_
  exact fin a0 a1 a2 n0 n1 n2 g0 (g1 _ (.head _)) (g2 _ (.head _))
end
end Mine
end
section
open PySem PySem.W PyProof.Rows PySem.Calls PySem.Spec
namespace Mine
/-- the turn from the place on -/
noncomputable def turnTail (P : Params) : Option (List Stmt) := (turnBody P).map (·.drop 4)
def nplc : Nat → Nat
  | 0 => 2
  | 1 => 1
  | _ => 2
section
variable {w : World} {A : Around} {E : Value → Shared → Prop} {s : Shared} {h₀ : Heap} {L : Addr} {m : Str → Option Value} {wd : Nat}
theorem nplc_le (h : wd < 3) : 0 < nplc wd ∧ nplc wd ≤ 2 := by
  rcases three_cases h with rfl | rfl | rfl <;> decide
theorem len_plc {Q : Value → Shared → Prop} (hi : wd < 3) (F : Fr h₀ L s.heap m) (X : (Mine.h0.heap_1_1 w.params).In h₀) (h : ∀ t k, Q (.int (nplc wd : Nat) t) { s with toks := k }) :
    wpAny (model PySem.Challenge.rw_pp0008_01.row.prog w) A (call (.builtin "len") [.ref (plcA wd)]) Q E s := by
  revert X
  k_fill
  intro X
  rcases three_cases hi with rfl | rfl | rfl
  · show wpAny _ _ (call (.builtin "len") [.ref 324]) _ _ _
    walk1
    exact h _ _
  · show wpAny _ _ (call (.builtin "len") [.ref 325]) _ _ _
    walk1
    exact h _ _
  · show wpAny _ _ (call (.builtin "len") [.ref 326]) _ _ _
    walk1
    exact h _ _
theorem pick_plc {value slice : PySem.Expr} {k : Int} {u : Tok} {Q : Value → Shared → Prop} (hi : wd < 3) (F : Fr h₀ L s.heap m) (X : (Mine.h0.heap_1_1 w.params).In h₀) (h0 : 0 ≤ k) (h3 : k < (nplc wd : Nat)) (h : ∀ (p : Nat) t, (p : Int) ∈ places wd → Q (.int (p : Nat) t) s)
    (hs : ∀ a k, subscripted slice false (.ref a) (.int k u) = operate [.ref a, .int k u] (getItem (.ref a) (.int k u)) := by intro a k; with_unfolding_all rfl) (hg : ∀ a r, letTemporaryGo value (.ref a) r = pure () := by intro _ _; with_unfolding_all rfl) :
    wpAny (model PySem.Challenge.rw_pp0008_01.row.prog w) A (subscriptTail value slice (.ref (plcA wd)) (.int k u)) Q E s := by
  obtain ⟨p1, p2, p3⟩ := places_in (X.keeps F.keep)
  rcases three_cases hi with rfl | rfl | rfl
  · rcases (by simp only [nplc] at h3; omega : k = 0 ∨ k = 1) with rfl | rfl
    · exact item_list p1 (by decide) (by decide) rfl (h 1 _ (by decide)) (hs _ _) (hg _)
    · exact item_list p1 (by decide) (by decide) rfl (h 2 _ (by decide)) (hs _ _) (hg _)
  · obtain rfl : k = 0 := by simp only [nplc] at h3; omega
    exact item_list p2 (by decide) (by decide) rfl (h 0 _ (by decide)) (hs _ _) (hg _)
  · rcases (by simp only [nplc] at h3; omega : k = 0 ∨ k = 1) with rfl | rfl
    · exact item_list p3 (by decide) (by decide) rfl (h 0 _ (by decide)) (hs _ _) (hg _)
    · exact item_list p3 (by decide) (by decide) rfl (h 1 _ (by decide)) (hs _ _) (hg _)
end
end Mine
end
section
open PySem PySem.W PyProof.Rows PySem.Calls PySem.Spec
namespace Mine
section
variable {prog : Program} {w : World} {A : Around} {E : Value → Shared → Prop} {s : Shared} {K : Frag} {x C : Addr} {ox : Obj} {od : Option Obj} {name : Str} {expr : Bool} {Q : Value → Shared → Prop} {cd : ClassData}
theorem get_exc {v : Value} (X : K.In s.heap) (I : InstAt s.heap x ox C od) (hga : findIn K (.ref C) "__getattribute__" = some (some (.builtin "BaseException.__getattribute__"))) (hgt : findIn K (.ref C) "__getattr__" = some none)
    (hc : clsIn K C = some cd) (ne : cd.mro.isEmpty = false) (ho : cd.mro.contains (.type "BaseException") = true)
    (hf : findObj K C od name = some (.value v)) (hh : handedIn v = true) (h : Q v { s with toks := s.toks + 1 }) : wpAny (model prog w) A (getAttr (.ref x) name expr) Q E s := by
  obtain ⟨hp, g, d, t, os⟩ := s
  have L0 := I.type (M := model prog w)
  have L1 := looks_findIn (M := model prog w) X hga
  have L2 := looks_findIn (M := model prog w) X hgt
  have L3 := looks_find (M := model prog w) X I hf
  have sub : Looks (model prog w) hp (isInstance (.ref x) (.type "BaseException")) true := I.type.andThen (looks_mroIn X (by unfold mroIn; rw [hc, Option.bind_some, if_neg (by rw [ne]; decide), ho]))
  have hx2 : (Value.builtin "BaseException.__getattribute__" == Value.builtin "object.__getattribute__") = false := by decide +kernel
  have hx0 : (expr && onTheHeap (Value.builtin "BaseException.__getattribute__")) = false := by cases expr <;> rfl
  have f3 := PySem.F.excAttr_ValueError.ga.bind (.ref x)
  unfold getAttr getAttrBy
  refine wpAny_bind (wpAny_mkText (wpAny_holding (wpAny_bind (L0.at (wpAny_bind (L1.at ?_))))))
  dsimp only
  rw [hx2, Bool.and_false, if_neg (by decide)]
  unfold getAttrByItsOwn hookBefore callGetattribute
  rw [hx0]
  rw [if_pos (show onTheHeap (Value.ref C) = true from rfl)]
  refine wpAny_bind (L2.at ?_)
  rw [if_neg (by decide)]
  refine wpAny_bind (wpAny_attempt (wpAny_holding ?_))
  unfold boundAndCalled
  rw [f3]
  refine wpAny_bind (wpAny_pure ?_)
  refine wpAny_call (codeAny_call_builtin PySem.F.excAttr_ValueError.ga.plain PySem.F.entry_bexc_ga (@check_slot (model prog w) _ _ _ "BaseException.__getattribute__" "BaseException" "__getattribute__" (.ref x) [.str name t] [] _ (by decide +kernel) (by decide +kernel) sub (PySem.F.args_bexc_ga _ _) ?_))
  refine wpAny_bind (wpAny_pure (wpAny_bind (wpAny_pure (wpAny_bind (L0.at (wpAny_bind (L3.at ?_)))))))
  refine wpAny_pure ?_
  show wpAny _ _ (handedOut v) _ _ _
  rw [handedOut_of hh]
  exact wpAny_pure h
end
end Mine
end
section
open PySem PySem.W PyProof.Rows PySem.Calls PySem.Spec
namespace Mine
section
variable {w : World} {A : Around} {E : Value → Shared → Prop} {s' : Shared} {g h : Heap} {outer : List Env} {L a e : Addr} {m : Str → Option Value} {cn : Str} {cs : Scope} {ccd : Value} {cl : List (Str × Addr)} {word : Str} {n : Str} {b₀ : Stmt} {suite : List Stmt} {pos : Pos} {rest : List ExceptHandler} {Q : Flow → Shared → Prop} {news : List (Addr × Obj)} {t : Expr}
/-- a flight of AdaRaise, caught by its name -/
theorem caught_ada (hA : A.frames = some (envX cn cs L a ccd cl :: outer)) (F : Fr g L h m) (hsm : h.UpToSlots s'.heap) (R : RaisedD g (envX cn cs L a ccd cl :: outer) e word news s'.heap) (X : (Mine.h0.heap_1_1 w.params).In g)
    (hname : ∀ (s₁ : Shared) (Q' E' : Value → Shared → Prop), Fr g L s₁.heap m → Q' (.ref 58) s₁ → wpAny (model PySem.Challenge.rw_pp0008_01.row.prog w) (A.mark (some (.ref e))) (eval t (envX cn cs L a ccd cl)) Q' E' s₁)
    (k : ∀ h' tk oe dx es nn tok, Fr g L h' (fun y => if y = n then some (.ref e) else m y) → News g L h' ((e, oe) :: (dx, dictOf es nn) :: news) → oe.cls = .ref 58 → oe.dict = some dx → (∃ ws, oe.data = .fields ws) → getL (Str.ofString "word") es = some (some (.str word tok)) →
      wpAny (model PySem.Challenge.rw_pp0008_01.row.prog w) (A.mark (some (.ref e))) (execs (b₀ :: suite) (envX cn cs L a ccd cl))
        (fun f s₄ => wpAny (model PySem.Challenge.rw_pp0008_01.row.prog w) A (do bindName (envX cn cs L a ccd cl) n .none; unbindBehindTheSuite (envX cn cs L a ccd cl) n pos) (fun _ s₅ => Q f s₅) E s₄)
        (AsSuiteRaised (model PySem.Challenge.rw_pp0008_01.row.prog w) (A.mark (some (.ref e))) (envX cn cs L a ccd cl) n pos (notedBy (model PySem.Challenge.rw_pp0008_01.row.prog w) (A.mark (some (.ref e))) (envX cn cs L a ccd cl) (cameBackBy (model PySem.Challenge.rw_pp0008_01.row.prog w) A (envX cn cs L a ccd cl) E)))
        { s' with heap := h', toks := tk })
    (hk : cs.kind = .function) (hl : (envX cn cs L a ccd cl).kindOf n = some .local) :
    wpAny (model PySem.Challenge.rw_pp0008_01.row.prog w) A (noteFrame (.ref e) (envX cn cs L a ccd cl))
      (fun _ s₂ => wpAny (model PySem.Challenge.rw_pp0008_01.row.prog w) A (setFlight (.ref e) none) (fun _ s₃ =>
        wpAny (model PySem.Challenge.rw_pp0008_01.row.prog w) A (handleBy (.ref e) (envX cn cs L a ccd cl) (.ExceptHandler (some t) (some n) (b₀ :: suite) pos :: rest)) Q E s₃) E s₂) E s' := by
  obtain ⟨B, t0, dx, es, nn, tok, hB, hle, hfl, ⟨oe0, ho0, hd0⟩, hdx, hdb, hw⟩ := R
  have hL : B.get? L = none := by
    obtain ⟨_, ⟨L', _, hf, hn', _⟩, _⟩ := hfl.2.2.1
    obtain rfl : L = L' := Option.some.inj hf
    exact hn'
  refine (tame_noteFrame (.ref e) (envX cn cs L a ccd cl)).any ?_
  refine wpAny_looks_onW hA rfl hfl fun h₄ hheld₄ hsm₄ hD₄ => ?_
  refine (tame_setFlight (.ref e) none).any ?_
  refine wpAny_landsW hheld₄ fun h₅ hheld hsm₅' hD₅ => ?_
  have hsm₅ := hsm₄.trans hsm₅'
  have hheld' := flyingW_base hB hheld
  have F₅ := F.of_stays hheld'.1 (hsm.trans hsm₅)
  obtain ⟨oh, hoh, hohc⟩ := hheld'.there
  refine wpAny_handleBy_cons (codeAny_handlers_test (hname _ _ _ F₅ ?_)) (by intro q; cases q)
  refine wpAny_excMatches_sub_self ((X.keeps F₅.keep) 58 _ (by rfl)) hoh hohc (by decide +kernel) (codeAny_handlers_suite_as ?_)
  refine (tame_setFlight (.ref e) none).any ?_
  refine lands_againW hheld fun h₆ hfl₆ hsm₆ hD₆ => ?_
  have hfl₆' := flyingW_base hB hfl₆
  have F₆ := F.of_stays hfl₆'.1 ((hsm.trans hsm₅).trans hsm₆)
  obtain ⟨oe, ws, hoe, hoec, hoed, hoe0⟩ := hfl₆'.first
  obtain ⟨oe', hoe', hod'⟩ := (hD₄.trans (hD₅.trans hD₆)) _ _ ho0
  have hoo : oe' = oe := Option.some.inj (hoe'.symm.trans hoe)
  subst hoo
  have N₆ := News.more F₆ News.nil hoe (fun es n q => by rw [hoed] at q; cases q) hfl₆'.2.1
  have Nl : News g L h₆ ((dx, dictOf es nn) :: news) := fun q hq => by
    rcases List.mem_cons.mp hq with rfl | hq
    · exact ⟨hfl₆.1 _ _ hdx, (fun z => by have h9 := hdx; rw [show dx = L from z, hL] at h9; cases h9), hdb⟩
    · exact ⟨hfl₆.1 _ _ (hle q hq).1, (fun z => by have h9 := (hle q hq).1; rw [z, hL] at h9; cases h9), (hle q hq).2⟩
  refine storeX_L F₆ (news := (e, oe') :: (dx, dictOf es nn) :: news) (fun q hq => (List.mem_cons.mp hq).elim (fun z => z ▸ N₆ _ (.head _)) (Nl q)) (fun h₇ F₇ N₇ => ?_) hk hl
  exact k h₇ _ _ _ _ _ _ F₇ N₇ hoec (hod'.trans hd0) ⟨_, hoed⟩ hw
end
section
variable {prog : Program} {w : World} {A : Around} {E : Value → Shared → Prop} {s : Shared} {h₀ : Heap} {L a e dx : Addr} {m : Str → Option Value} {cn : Str} {cs : Scope} {ccd : Value} {cl : List (Str × Addr)} {news news' : List (Addr × Obj)} {oe : Obj} {es : List DictEntry} {nn : Nat} {word : Str} {tok : Tok}
theorem get_word {expr : Bool} {Q : Value → Shared → Prop} (F : Fr h₀ L s.heap m) (X : (Mine.h0.heap_1_1 w.params).In h₀) (N : News h₀ L s.heap ((e, oe) :: (dx, dictOf es nn) :: news)) (hc : oe.cls = .ref 58) (hd : oe.dict = some dx) (hf : ∃ ws, oe.data = .fields ws) (hw : getL (Str.ofString "word") es = some (some (.str word tok)))
    (h : Q (.str word tok) { s with toks := s.toks + 1 }) : wpAny (model PySem.Challenge.rw_pp0008_01.row.prog w) A (getAttr (.ref e) (Str.ofString "word") expr) Q E s := by
  have I : InstAt s.heap e oe 58 (some (dictOf es nn)) := ⟨(N _ (.head _)).1, hc, by obtain ⟨ws, hf⟩ := hf; obtain ⟨c1, d1, dt1, sl1⟩ := oe; obtain rfl : dt1 = _ := hf; rfl, by rw [hd]; exact (N _ (.tail _ (.head _))).1⟩
  revert X
  k_fill
  intro X
  refine' get_exc (K := Mine.h0.heap_1_1 w.params) (X.keeps F.keep) I ?a ?b ?c ?d ?e (findObj_own ?f ?g ?h hw) rfl h
  case a => k_is
  case b => k_is
  case c => k_is
  case d => rfl
  case e => decide +kernel
  case f => k_is
  case g => k_is
  case h => k_is
theorem name_goes_X {M : Model} {n : Str} {pos : Pos} {Q : Unit → Shared → Prop} (F : Fr h₀ L s.heap m) (N : News h₀ L s.heap news)
    (h : ∀ h' v, Fr h₀ L h' (fun x => if x = n then v else m x) → News h₀ L h' news → Q () { s with heap := h', toks := s.toks + 1 })
    (hk : cs.kind = .function) (hl : (envX cn cs L a ccd cl).kindOf n = some .local) :
    wpAny M A (do bindName (envX cn cs L a ccd cl) n .none; unbindBehindTheSuite (envX cn cs L a ccd cl) n pos) Q E s :=
  wpAny_nameGoes_keeps hl F.ns (by show (cs.kind == .class || (cs.kind == .module && L != mainGlobals)) = false; rw [hk]; rfl) fun h' v hn hs => h h' v (F.set hn hs) (N.set hs)
theorem ne_same {x y : Str} {t u : Tok} {Q : Value → Shared → Prop} (hxy : x = y) (h : Q (.bool false) s) : wpAny (model prog w) A (compareOp .NotEq (.str x t) (.str y u)) Q E s := by
  subst hxy
  refine ne_str ?_
  rw [show (x != x) = false by simp]
  exact h
theorem LineOf.mono {wo : World} {σ : Shape} {es : Nat → List DictEntry} {nin nout : Addr} {oin oout : Obj} {kin kout : List (Str × Value)} {th : Nat → Nat → Addr} (H : LineOf prog wo σ news es nin nout oin oout kin kout th) (sub : ∀ p ∈ news, p ∈ news') : LineOf prog wo σ news' es nin nout oin oout kin kout th :=
  ⟨fun k hk => let ⟨O, oo, ops, h1, h2, r⟩ := H.op k hk; ⟨O, oo, ops, h1, sub _ h2, r⟩, sub _ H.hin, H.hoin, H.loin, sub _ H.hout, H.hoout, H.loout, H.vin, H.vout,
   fun x w k hx hw hk h0 => let ⟨dt, et, nt, sb, ds, eb, ns, ct, nc, t, h1, h2, h3, h4, h5, h6, h7, h8⟩ := H.thing x w k hx hw hk h0; ⟨dt, et, nt, sb, ds, eb, ns, ct, nc, t, sub _ h1, sub _ h2, h3, sub _ h4, sub _ h5, h6, h7, sub _ h8⟩⟩
theorem RunOf.mono {run inn out nin nout : Addr} (H : RunOf news run inn out nin nout) (sub : ∀ p ∈ news, p ∈ news') : RunOf news' run inn out nin nout :=
  ⟨let ⟨dr, esr, nr, tl, task, dt, est, nt, r1, r2, r3, r4, r5, r6, r7⟩ := H.run; ⟨dr, esr, nr, tl, task, dt, est, nt, sub _ r1, sub _ r2, r3, r4, sub _ r5, sub _ r6, r7⟩,
   let ⟨di, esi, ni, i1, i2, i3, i4⟩ := H.inn; ⟨di, esi, ni, sub _ i1, sub _ i2, i3, i4⟩, let ⟨di, esi, ni, i1, i2, i3, i4⟩ := H.out; ⟨di, esi, ni, sub _ i1, sub _ i2, i3, i4⟩⟩
end
end Mine
end
section
open PySem PySem.W PyProof.Rows PySem.Calls PySem.Spec
namespace Mine
local macro_rules | `(tactic| walk_at "exec Try") => `(tactic| (k_here; refine wpAny_Try_except ?_))
local macro_rules | `(tactic| walk_at "CompRest") => `(tactic| (k_here; refine halt ?_))
local macro_rules | `(tactic| walk_at "call ref") => `(tactic| (k_here; (with_reducible show wpAny _ _ (call (Value.ref 173) _) _ _ _); refine halt ?_))
/-- the try of the turn -/
noncomputable def tryStmt (P : Params) : Option Stmt := (turnBody P).bind fun b => b[5]?
section
variable {w : World} {mean : ExcName → Option Value} {mg mb : Str → Option Value} {dp un : Nat} {gd : Option (List Code)} {a : Addr} {ccd : Value} {outer : List Env} {A₀ : Around} {g : Heap} {L : Addr} {m : Str → Option Value} {s : Shared} {Q : Flow → Shared → Prop} {E : Value → Shared → Prop}
    {st : Stmt} {fd : FuncData} {cb ct nin nout run inn out dv : Addr} {S : List (Addr × Obj)} {nvl : Nat} {oin oout : Obj} {tw tpl : Tok} {σ : Shape} {wd p : Nat}
    {T D : Nat → Addr} {es : Nat → List DictEntry} {nT : Nat → Nat} {tT : Nat → Tok} {kin kout : List (Str × Value)} {th : Nat → Nat → Addr} {cc : Nat → Int} {vv : Nat → Value}
set_option maxHeartbeats 8000000 in
theorem try_ok (hst : tryStmt w.params = some st) (hfd : lawData w.params = some fd)
    (B : Below A₀ g outer g) (F : Fr g L s.heap m) (X : (Mine.h0.heap_1_1 w.params).In g) (T9 : Top Mine.h0.view_1_2 (looseW Mine.h0.view_1_2 [Str.ofString "UNSET", Str.ofString "Limits", Str.ofString "_law_places"]) mean mg mb g) (hd : dp + 60 < recursionLimit) (hu : un + 1000 < cLine)
    (N : News g L s.heap S) (K : Kinds S T D es nT tT) (KL : LineOf PySem.Challenge.rw_pp0008_01.row.prog w σ S es nin nout oin oout kin kout th) (KR : RunOf S run inn out nin nout)
    (m1 : m (Str.ofString "run") = some (.ref run)) (m4 : m (Str.ofString "word") = some (.str (wn wd) tw)) (m6 : m (Str.ofString "values") = some (.ref dv)) (m7 : m (Str.ofString "place") = some (.int (p : Nat) tpl))
    (hwd : wd < 3) (hp2 : σ.p2 < 2) (hcc : ∀ k, 0 ≤ cc k) (hp : (p : Int) ∈ places wd) (hvl : (dv, W.listOf [vv 0, vv 1, vv 2].toArray nvl) ∈ S) (hv : ∀ k, k < 3 → ValIs S T (cc k) (vv k))
    (hE : PassesOwn (model PySem.Challenge.rw_pp0008_01.row.prog w) (ktrTop dp un gd (Str.ofString "law") fd.scope L a ccd [(Str.ofString "types", ct), (Str.ofString "box", cb)] outer) (envX (Str.ofString "law") fd.scope L a ccd [(Str.ofString "types", ct), (Str.ofString "box", cb)]) E)
    (ret : ∀ (m' : Str → Option Value) (t : Tok) (h' : Heap) (tk' : Nat), m' (Str.ofString "heard") = some (.str (res σ wd cc p) t) → (∀ y, y ≠ Str.ofString "heard" → y ≠ Str.ofString "fault" → m' y = m y) → Fr g L h' m' → News g L h' S → Q .next { s with heap := h', toks := tk' }) :
    wpAny (model PySem.Challenge.rw_pp0008_01.row.prog w) (ktrTop dp un gd (Str.ofString "law") fd.scope L a ccd [(Str.ofString "types", ct), (Str.ofString "box", cb)] outer) (exec st (envX (Str.ofString "law") fd.scope L a ccd [(Str.ofString "types", ct), (Str.ofString "box", cb)])) Q E s := by
  have hel : callElt w.params = some _ := rfl
  have e : some st = some _ := hst.symm.trans rfl
  injection e with e
  subst e
  have hfd2 := hfd
  have e : some fd = some _ := hfd.symm.trans rfl
  injection e with e
  subst e
  clear hst hfd
  dsimp only
  revert X
  k_fill
  intro X
  k_steps
  unfold Halt
  refine tups_all hel hfd2 B X T9 hd hu (fun ext => .inr ⟨_, List.mem_append_right _ hvl, rfl, _, rfl⟩) ?_
  intro a0 a1 a2 n0 n1 n2 g0 g1 g2
  unfold LCg.FinE
  intro D9 h9 tk9 F9 N9 off9
  have sub9 : ∀ p ∈ S, p ∈ (D9, LCg.lst [Value.ref a0, .ref a1, .ref a2]) :: (a2, tupO [vv 2, .none, .none] n2) :: (a1, tupO [vv 1, .none, .none] n1) :: (a0, tupO [vv 0, .none, .none] n0) :: S := fun p hp => .tail _ (.tail _ (.tail _ (.tail _ hp)))
  k_steps
  unfold Halt
  (with_reducible rename Fr _ _ _ _ => kF9); (with_reducible rename News _ _ _ _ => kN9)
  refine tagged_ok (ta := pick a0 a1 a2) (na := pick n0 n1 n2) B kF9 X T9 rfl (by omega) (by omega) kN9 (K.mono sub9) (KL.mono sub9) (KR.mono sub9) hwd hp2 hcc hp (.head _) ?hta (fun k hk => (hv k hk).mono sub9) ?ret ?exc
  case hta =>
    intro k hk
    rcases three_cases hk with rfl | rfl | rfl
    · exact .tail _ (.tail _ (.tail _ (.head _)))
    · exact .tail _ (.tail _ (.head _))
    · exact .tail _ (.head _)
  case ret =>
    intro x h' tk' k hx hk h0 hres F' N'
    obtain ⟨dt, et, nt, sb, ds, eb, ns, ct9, nc9, t9, z1, z2, z3, z4, z5, z6, z7, z8⟩ := (KL.mono sub9).thing x wd k hx hwd hk h0
    k_steps
    (with_reducible rename Fr _ _ _ _ => kF9); (with_reducible rename News _ _ _ _ => kN9)
    refine ret _ t9 _ _ ?_ ?_ kF9 (cb_drop kN9 (fun p hp => .tail _ (.tail _ (.tail _ (.tail _ hp)))))
    · rw [hres]; exact if_pos rfl
    · intro y h1 h2; exact if_neg h1
  case exc =>
    intro e h' tk' g₂ R9 F9 U9
    refine caught_ada rfl F9 U9 R9 X ?hname ?k rfl rfl
    case hname =>
      clear F N kN9 kF9 F9
      intro s₁ Q' E' F1 hq
      k_steps
      exact hq
    case k =>
      clear F N kN9 kF9 F9
      intro h2 tk2 oe dx es9 nn tok F2 N2 hc9 hd9 hf9 hw9
      k_steps
      refine get_word F2 X N2 hc9 hd9 hf9 hw9 ?_
      k_steps
      (with_reducible rename Fr _ _ _ _ => kF9); (with_reducible rename News _ _ _ _ => kN9)
      refine name_goes_X kF9 kN9 (fun h4 v4 F4 N4 => ?_) rfl rfl
      refine ret _ tok _ _ ?_ ?_ F4 (cb_drop N4 (fun p hp => .tail _ (.tail _ (.tail _ (.tail _ (.tail _ (.tail _ hp)))))))
      · exact (if_neg (by decide +kernel)).trans (if_pos rfl)
      · intro y h1 h2; exact (if_neg h2).trans ((if_neg h1).trans (if_neg h2))
end
end Mine
end
section
open PySem PySem.W PyProof.Rows PySem.Calls PySem.Spec
namespace Mine
local macro_rules | `(tactic| walk_at "subscriptTail Name Name ref str") => `(tactic| (k_here; (with_reducible show wpAny _ _ (subscriptTail _ _ (Value.ref 323) (Value.str _ _)) _ _ _); k_dflt (refine' places_item (by assumption) (by k_asm) (by k_asm) ?_)))
local macro_rules | `(tactic| walk_at "call builtin:len") => `(tactic| (k_here; (with_reducible show wpAny _ _ (call (Value.builtin "len") [Value.ref (plcA _)]) _ _ _); k_dflt (refine' len_plc (by assumption) (by k_asm) (by k_asm) ?_); intro _ _))
local macro_rules | `(tactic| walk_at "subscriptTail") => `(tactic| (k_here; (with_reducible show wpAny _ _ (subscriptTail _ _ (Value.ref (plcA _)) (Value.int _ _)) _ _ _); k_dflt (refine' pick_plc (by assumption) (by k_asm) (by k_asm) (by assumption) (by assumption) ?_); intro _ _ _))
local macro_rules | `(tactic| walk_at "exec Try") => `(tactic| (k_here; refine halt ?_))
local macro_rules | `(tactic| walk_at "call ref") => `(tactic| (k_here; (with_reducible show wpAny _ _ (call (Value.ref 346) _) _ _ _); refine halt ?_))
local macro_rules | `(tactic| walk_at "compareOp NotEq str str") => `(tactic| (k_here; k_dflt (refine' ne_same rfl ?_)))
section
variable {w : World} {mean : ExcName → Option Value} {mg mb : Str → Option Value} {dp un : Nat} {gd : Option (List Code)} {a : Addr} {ccd : Value} {outer : List Env} {A₀ : Around} {g : Heap} {L : Addr} {m : Str → Option Value} {s : Shared} {Q : Flow → Shared → Prop} {E : Value → Shared → Prop}
    {tail : List Stmt} {fd : FuncData} {bx c cb ct nin nout tu tl pl ld run inn out dt dv : Addr} {Sin S₀ S : List (Addr × Obj)} {vs : List Value} {ns : List Int} {nc nu nl np ntg nvl : Nat} {ob ob₀ ocb oct oin oout : Obj} {tb tb₀ tw : Tok} {n n₀ : Int} {σ : Shape} {wd : Nat}
    {T D : Nat → Addr} {es : Nat → List DictEntry} {nT : Nat → Nat} {tT tp tc : Nat → Tok} {kin kout : List (Str × Value)} {th : Nat → Nat → Addr} {xs : List (List (Int ⊕ Str) × Addr × Value)} {cc : Nat → Int} {vv : Nat → Value}
set_option maxHeartbeats 8000000 in
theorem turn_b (hst : turnTail w.params = some tail) (hfd : lawData w.params = some fd)
    (B : Below A₀ g outer g) (F : Fr g L s.heap m) (X : (Mine.h0.heap_1_1 w.params).In g) (T9 : Top Mine.h0.view_1_2 (looseW Mine.h0.view_1_2 [Str.ofString "UNSET", Str.ofString "Limits", Str.ofString "_law_places"]) mean mg mb g) (hd : dp + 60 < recursionLimit) (hu : un + 1000 < cLine)
    (N : News g L s.heap ((bx, ob) :: S)) (HL : Lined w Sin bx c nin nout tu S₀ ob₀ n₀ tb₀ σ tl pl ld nu nl np T D es nT tT tp oin oout kin kout th xs)
    (sub : ∀ p ∈ S₀, p ∈ S) (off : ∀ p ∈ S, p.1 ≠ bx) (hob : ob.IsDictOf (PySem.strKind PySem.Challenge.rw_pp0008_01.row.prog w) [(Str.ofString "cells", Value.ref c), (Str.ofString "at", Value.int n tb)]) (n0 : 0 ≤ n) (n1 : n ≤ 800)
    (hcb : [(Str.ofString "types", ct), (Str.ofString "box", cb)].lookup (Str.ofString "box") = some cb) (mcb : (cb, ocb) ∈ S) (dcb : ocb.data = .cell (some (.ref bx)))
    (m1 : m (Str.ofString "run") = some (.ref run)) (m2 : m (Str.ofString "parents") = some (.ref pl)) (m3 : m (Str.ofString "laid") = some (.ref ld)) (m4 : m (Str.ofString "word") = some (.str (wn wd) tw)) (m5 : m (Str.ofString "tags") = some (.ref dt)) (m6 : m (Str.ofString "values") = some (.ref dv))
    (hwd : wd < 3) (hcc : ∀ k, 0 ≤ cc k) (htg : (dt, W.listOf [tagv (cc 0) (tc 0), tagv (cc 1) (tc 1), tagv (cc 2) (tc 2)].toArray ntg) ∈ S) (hvl : (dv, W.listOf [vv 0, vv 1, vv 2].toArray nvl) ∈ S) (hv : ∀ k, k < 3 → ValIs S T (cc k) (vv k))
    (KR : RunOf S₀ run inn out nin nout) (hI : IntsAre vs ns) (hln : ns.length ≤ 60) (hc : (c, W.listOf vs.toArray nc) ∈ S) (hlb : (bx == sysModules) = false)
    (hE : PassesOwn (model PySem.Challenge.rw_pp0008_01.row.prog w) (ktrTop dp un gd (Str.ofString "law") fd.scope L a ccd [(Str.ofString "types", ct), (Str.ofString "box", cb)] outer) (envX (Str.ofString "law") fd.scope L a ccd [(Str.ofString "types", ct), (Str.ofString "box", cb)]) E)
    (ret : ∀ (m' : Str → Option Value) (ob' : Obj) (tb' : Tok) (h' : Heap) (tk' : Nat), m' (Str.ofString "run") = m (Str.ofString "run") → m' (Str.ofString "parents") = m (Str.ofString "parents") → m' (Str.ofString "laid") = m (Str.ofString "laid") → Fr g L h' m' → News g L h' ((bx, ob') :: S) →
      ob'.IsDictOf (PySem.strKind PySem.Challenge.rw_pp0008_01.row.prog w) [(Str.ofString "cells", Value.ref c), (Str.ofString "at", Value.int (n + 1) tb')] → Q .next { s with heap := h', toks := tk' }) :
    wpAny (model PySem.Challenge.rw_pp0008_01.row.prog w) (ktrTop dp un gd (Str.ofString "law") fd.scope L a ccd [(Str.ofString "types", ct), (Str.ofString "box", cb)] outer) (execs tail (envX (Str.ofString "law") fd.scope L a ccd [(Str.ofString "types", ct), (Str.ofString "box", cb)])) Q E s := by
  have htry : tryStmt w.params = some _ := rfl
  have hfd2 := hfd
  have e : some tail = some _ := hst.symm.trans rfl
  injection e with e
  subst e
  have e : some fd = some _ := hfd.symm.trans rfl
  injection e with e
  subst e
  clear hst hfd
  dsimp only
  have f1 := (nplc_le hwd).1
  have f2 := (nplc_le hwd).2
  revert X
  k_fill
  intro X
  k_steps
  unfold Halt
  (with_reducible rename Fr _ _ _ _ => kF9); (with_reducible rename News _ _ _ _ => kN9)
  refine try_ok (tw := tw) (dv := dv) (run := run) (vv := vv) htry hfd2 B kF9 X T9 hd hu kN9 (HL.kinds.mono (fun q hq => .tail _ (sub q hq))) (HL.line.mono (fun q hq => .tail _ (sub q hq))) (KR.mono (fun q hq => .tail _ (sub q hq))) ?_ ?_ ?_ (if_pos rfl) hwd HL.p2 hcc (by assumption) (.tail _ hvl) (fun k hk => (hv k hk).mono (fun q hq => .tail _ hq)) (by passes_own) ?_
  · exact (if_neg (by decide +kernel)).trans m1
  · exact (if_neg (by decide +kernel)).trans m4
  · exact (if_neg (by decide +kernel)).trans m6
  intro m' t h' tk' hm heq F9 N9
  clear kF9 kN9
  have q1 : m' (Str.ofString "run") = some (.ref run) := (heq _ (by decide +kernel) (by decide +kernel)).trans ((if_neg (by decide +kernel)).trans m1)
  have q2 : m' (Str.ofString "parents") = some (.ref pl) := (heq _ (by decide +kernel) (by decide +kernel)).trans ((if_neg (by decide +kernel)).trans m2)
  have q3 : m' (Str.ofString "laid") = some (.ref ld) := (heq _ (by decide +kernel) (by decide +kernel)).trans ((if_neg (by decide +kernel)).trans m3)
  have q4 : m' (Str.ofString "word") = some (.str (wn wd) tw) := (heq _ (by decide +kernel) (by decide +kernel)).trans ((if_neg (by decide +kernel)).trans m4)
  have q5 : m' (Str.ofString "tags") = some (.ref dt) := (heq _ (by decide +kernel) (by decide +kernel)).trans ((if_neg (by decide +kernel)).trans m5)
  have q7 : m' (Str.ofString "place") = some (.int _ _) := (heq _ (by decide +kernel) (by decide +kernel)).trans (if_pos rfl)
  k_steps
  unfold Halt
  (with_reducible rename Fr _ _ _ _ => kF9); (with_reducible rename News _ _ _ _ => kN9)
  refine due_ok (σ := σ) (c := cc) (tc := tc) (tp := tp) B kF9 X T9 rfl (by omega) (by omega) kN9 hwd HL.p2 hcc (by assumption) (.tail _ (sub _ HL.pars)) (.tail _ htg) (HL.laid.mono (fun q hq => .tail _ (sub q hq))) HL.says HL.lo ?_
  intro t4 h4 tk4 F4 N4
  k_steps
  (with_reducible rename Fr _ _ _ _ => kF8); (with_reducible rename News _ _ _ _ => kN8)
  exact ret _ _ _ _ _ (q1.trans m1.symm) (q2.trans m2.symm) (q3.trans m3.symm) kF8 kN8 (by assumption)
end
end Mine
end
section
open PySem PySem.W PyProof.Rows PySem.Calls PySem.Spec
namespace Mine
local macro_rules | `(tactic| walk_at "CompSrc") => `(tactic| (k_here; k_dflt (first
  | (refine LCg.CompSrc.ledger (by rfl) (by k_asm) (by k_asm) (by k_mem) (by first | size_fits | exact Nat.le_of_ble_eq_true rfl) ?_; intro _; lcg_lit)
  | (refine LCg.CompSrc.range (by rfl) (by k_asm) (by k_asm) (by assumption) (by first | decide | rfl) (by first | rfl | decide) (by first | size_fits | exact Nat.le_of_ble_eq_true rfl) ?_; intro _; lcg_lit))))
local macro_rules | `(tactic| walk_at "CompRest") => `(tactic| (k_here; refine halt ?_))
theorem News.swap2 {g h : Heap} {L : Addr} {a b : Addr × Obj} {S : List (Addr × Obj)} (N : News g L h (a :: b :: S)) : News g L h (b :: a :: S) := fun p hp => N p (by
  simp only [List.mem_cons] at hp ⊢
  rcases hp with h | h | h <;> simp only [h, true_or, or_true])
theorem mem_bx {a b c d e q : Addr × Obj} {ext S : List (Addr × Obj)} (hq : q ∈ a :: b :: (ext ++ (c :: d :: e :: S))) : q ∈ b :: (ext ++ (c :: d :: a :: e :: S)) := by
  simp only [List.mem_cons, List.mem_append] at hq ⊢
  rcases hq with h | h | h | h | h | h | h <;> simp only [h, true_or, or_true]
theorem chain4 {g h : Heap} {L : Addr} {m : Str → Option Value} {a b c d : Str} {x1 x2 x3 x4 : Option Value} (F : Fr g L h (fun z => if z = a then x1 else (fun z => if z = b then x2 else (fun z => if z = c then x3 else (fun y => if y = d then x4 else m y) z) z) z))
    (hba : b ≠ a) (hda : d ≠ a) (hdb : d ≠ b) (hdc : d ≠ c) : ∃ m5, Fr g L h m5 ∧ m5 a = x1 ∧ m5 b = x2 ∧ m5 d = x4 ∧ ∀ y, y ≠ a → y ≠ b → y ≠ c → y ≠ d → m5 y = m y :=
  ⟨_, F, if_pos rfl, (if_neg hba).trans (if_pos rfl), (if_neg hda).trans ((if_neg hdb).trans ((if_neg hdc).trans (if_pos rfl))), fun y h1 h2 h3 h4 => (if_neg h1).trans ((if_neg h2).trans ((if_neg h3).trans (if_neg h4)))⟩
theorem off1_mem {D : Addr} : ∀ {l : List (Addr × Obj)}, LCg.Off1 D l → ∀ p ∈ l, @Ne Nat p.1 D
  | [], _, p, hp => nomatch hp
  | q :: r, H, p, hp => by
    rcases List.mem_cons.mp hp with rfl | hp
    · exact H.1
    · exact off1_mem H.2 p hp
theorem mem_I {a b c d e q : Addr × Obj} {ext S : List (Addr × Obj)} (hq : q ∈ e :: a :: b :: (ext ++ (c :: d :: S))) : q ∈ a :: b :: (ext ++ (c :: d :: e :: S)) := by
  simp only [List.mem_cons, List.mem_append] at hq ⊢
  rcases hq with h | h | h | h | h | h | h <;> simp only [h, true_or, or_true]
set_option maxHeartbeats 8000000 in
theorem turn_ok {w : World} {mean : ExcName → Option Value} {mg mb : Str → Option Value} {dp un : Nat} {gd : Option (List Code)} {a : Addr} {ccd : Value} {outer : List Env} {A₀ : Around} {g : Heap} {L : Addr} {m m₀ : Str → Option Value} {s : Shared} {Q : Flow → Shared → Prop} {E : Value → Shared → Prop}
    {body : List Stmt} {fd : FuncData} {bx c cb ct nin nout tu tl pl ld run inn out I : Addr} {Sin S₀ S : List (Addr × Obj)} {vs : List Value} {ns : List Int} {nc nu nl np : Nat} {ob ob₀ ocb oct oin oout oI : Obj} {tb tb₀ : Tok} {n n₀ : Int} {σ : Shape} {i : Nat}
    {T D : Nat → Addr} {es : Nat → List DictEntry} {nT : Nat → Nat} {tT tp : Nat → Tok} {kin kout : List (Str × Value)} {th : Nat → Nat → Addr} {xs : List (List (Int ⊕ Str) × Addr × Value)}
    (hst : turnBody w.params = some body) (hfd : lawData w.params = some fd)
    (B : Below A₀ g outer g) (F : Fr g L s.heap m) (X : (Mine.h0.heap_1_1 w.params).In g) (T9 : Top Mine.h0.view_1_2 (looseW Mine.h0.view_1_2 [Str.ofString "UNSET", Str.ofString "Limits", Str.ofString "_law_places"]) mean mg mb g) (hd : dp + 60 < recursionLimit) (hu : un + 1000 < cLine)
    (N : News g L s.heap ((I, oI) :: (bx, ob) :: S)) (HL : Lined w Sin bx c nin nout tu S₀ ob₀ n₀ tb₀ σ tl pl ld nu nl np T D es nT tT tp oin oout kin kout th xs)
    (sub : ∀ p ∈ S₀, p ∈ S) (off : ∀ p ∈ S, p.1 ≠ bx) (offI : ∀ p ∈ S, p.1 ≠ I) (neI : @Ne Nat bx I) (hob : ob.IsDictOf (PySem.strKind PySem.Challenge.rw_pp0008_01.row.prog w) [(Str.ofString "cells", Value.ref c), (Str.ofString "at", Value.int n tb)]) (n0 : 0 ≤ n) (n1 : n ≤ 31 + 5 * (i : Nat)) (hi : i < 4)
    (mcb : (cb, ocb) ∈ S) (mct : (ct, oct) ∈ S) (dcb : ocb.data = .cell (some (.ref bx))) (dct : oct.data = .cell (some (.ref tl)))
    (m1 : m (Str.ofString "run") = some (.ref run)) (m2 : m (Str.ofString "parents") = some (.ref pl)) (m3 : m (Str.ofString "laid") = some (.ref ld)) (e1 : m₀ (Str.ofString "run") = some (.ref run)) (e2 : m₀ (Str.ofString "parents") = some (.ref pl)) (e3 : m₀ (Str.ofString "laid") = some (.ref ld))
    (KR : RunOf S₀ run inn out nin nout) (hI : IntsAre vs ns) (hln : ns.length ≤ 60) (hc : (c, W.listOf vs.toArray nc) ∈ S) (hlb : (bx == sysModules) = false)
    (hE : PassesOwn (model PySem.Challenge.rw_pp0008_01.row.prog w) (ktrTop dp un gd (Str.ofString "law") fd.scope L a ccd [(Str.ofString "types", ct), (Str.ofString "box", cb)] outer) (envX (Str.ofString "law") fd.scope L a ccd [(Str.ofString "types", ct), (Str.ofString "box", cb)]) E) :
    wpAny (model PySem.Challenge.rw_pp0008_01.row.prog w) (ktrTop dp un gd (Str.ofString "law") fd.scope L a ccd [(Str.ofString "types", ct), (Str.ofString "box", cb)] outer) (execs body (envX (Str.ofString "law") fd.scope L a ccd [(Str.ofString "types", ct), (Str.ofString "box", cb)])) (TurnJ g L I oI (JT PySem.Challenge.rw_pp0008_01.row.prog w bx c S₀ m₀ (i + 1)) s Q) E s := by
  have hel1 : eltOf w.params 1 = some _ := rfl
  have hel2 : eltOf w.params 2 = some _ := rfl
  have hel3 : eltOf w.params 3 = some _ := rfl
  have htl : turnTail w.params = some _ := rfl
  have hfd2 := hfd
  have hcb : [(Str.ofString "types", ct), (Str.ofString "box", cb)].lookup (Str.ofString "box") = some cb := rfl
  have hct : [(Str.ofString "types", ct), (Str.ofString "box", cb)].lookup (Str.ofString "types") = some ct := rfl
  have e : some body = some _ := hst.symm.trans rfl
  injection e with e
  subst e
  have e : some fd = some _ := hfd.symm.trans rfl
  injection e with e
  subst e
  clear hst hfd
  dsimp only
  revert X
  k_fill
  intro X
  have N2 : News g L s.heap ((bx, ob) :: (I, oI) :: S) := News.swap2 N
  have offb : ∀ p ∈ (I, oI) :: S, p.1 ≠ bx := fun p hp => by
    rcases List.mem_cons.mp hp with rfl | hp
    · exact fun q => neI q.symm
    · exact off p hp
  clear N
  k_steps
  unfold Halt
  refine codes_all hel1 hfd2 B X T9 hd hu offb (by assumption) (by omega) (by omega) hI hln (.tail _ hc) hlb (.tail _ mcb) dcb ?_
  intro r0 r1 r2 t0 t1 t2 t3 ob3 a0 b0 a1 b1 a2 b2 hob3
  unfold LCg.FinA
  intro D3 h3 tk3 F3 N3 off3
  k_steps
  unfold Halt
  refine tags_all hel2 hfd2 B X T9 hd hu (.inr ⟨_, .head _, rfl, _, rfl⟩) ?_
  unfold LCg.FinA
  intro D4 h4 tk4 F4 N4 off4
  k_steps
  unfold Halt
  refine vals_all (T := T) hel3 hfd2 B X T9 hd hu (fun ext => .inr ⟨_, List.mem_append_right _ (.tail _ (.head _)), rfl, _, rfl⟩) a0 a1 a2 (.tail _ (.tail _ (.tail _ (.tail _ mct)))) dct (.tail _ (.tail _ (.tail _ (.tail _ (sub _ HL.types))))) ?_
  intro v0 v1 v2 ext gext V0 V1 V2
  unfold LCg.FinA
  intro D5 h5 tk5 F5 N5 off5
  show wpAny _ _ (execs _ _) _ _ _
  have N6 : News g L h5 ((bx, ob3) :: (D5, LCg.lst [v0, v1, v2]) :: (ext ++ ((D4, LCg.lst [tagv r0 t0, tagv r1 t1, tagv r2 t2]) :: (D3, LCg.lst [Value.int r0 t0, .int r1 t1, .int r2 t2]) :: (I, oI) :: S))) := fun q hq => N5 q (mem_bx hq)
  have sub6 : ∀ q ∈ S, q ∈ (D5, LCg.lst [v0, v1, v2]) :: (ext ++ ((D4, LCg.lst [tagv r0 t0, tagv r1 t1, tagv r2 t2]) :: (D3, LCg.lst [Value.int r0 t0, .int r1 t1, .int r2 t2]) :: (I, oI) :: S)) := fun q hq => .tail _ (List.mem_append_right _ (.tail _ (.tail _ (.tail _ hq))))
  obtain ⟨m5, G5, w1, w2, w3, w4⟩ := chain4 F5 (by decide +kernel) (by decide +kernel) (by decide +kernel) (by decide +kernel)
  have r1' := (w4 (Str.ofString "run") (by decide +kernel) (by decide +kernel) (by decide +kernel) (by decide +kernel)).trans m1
  have r2' := (w4 (Str.ofString "parents") (by decide +kernel) (by decide +kernel) (by decide +kernel) (by decide +kernel)).trans m2
  have r3' := (w4 (Str.ofString "laid") (by decide +kernel) (by decide +kernel) (by decide +kernel) (by decide +kernel)).trans m3
  refine turn_b (cc := pick r0 r1 r2) (tc := pick t0 t1 t2) (vv := pick v0 v1 v2) htl hfd2 B G5 X T9 hd hu N6 HL (fun q hq => sub6 q (sub q hq)) ?_ hob3 (by omega) (by omega) rfl (sub6 _ mcb) dcb r1' r2' r3' w3 w2 w1 (by assumption) ?_ (.tail _ (List.mem_append_right _ (.head _))) (.head _) ?_ KR hI hln (sub6 _ hc) hlb (by passes_own) ?_
  · intro q hq
    rcases List.mem_cons.mp hq with rfl | hq
    · exact fun z => off1_mem off5 (bx, ob3) (List.mem_append_right _ (.tail _ (.tail _ (.head _)))) z.symm
    · rcases List.mem_append.mp hq with hq | hq
      · exact fun z => Nat.ne_of_lt (gext q hq (bx, ob3) (.tail _ (.tail _ (.head _)))) z.symm
      · simp only [List.mem_cons] at hq
        rcases hq with rfl | rfl | rfl | hq
        · exact fun z => off1_mem off4 (bx, ob3) (.tail _ (.head _)) z.symm
        · exact fun z => off1_mem off3 (bx, ob3) (.head _) z.symm
        · exact fun z => neI z.symm
        · exact off q hq
  · intro k
    rcases k with _ | _ | k <;> assumption
  · intro k hk
    have up : ∀ q ∈ ext, q ∈ (D5, LCg.lst [v0, v1, v2]) :: (ext ++ ((D4, LCg.lst [tagv r0 t0, tagv r1 t1, tagv r2 t2]) :: (D3, LCg.lst [Value.int r0 t0, .int r1 t1, .int r2 t2]) :: (I, oI) :: S)) := fun q hq => .tail _ (List.mem_append_left _ hq)
    rcases three_cases hk with rfl | rfl | rfl
    · exact V0.mono up
    · exact V1.mono up
    · exact V2.mono up
  · intro m' ob' tb' h' tk' k1 k2 k3 F' N' hob'
    refine turnJ_end (nx := (bx, ob') :: (D5, LCg.lst [v0, v1, v2]) :: (ext ++ ((D4, LCg.lst [tagv r0 t0, tagv r1 t1, tagv r2 t2]) :: (D3, LCg.lst [Value.int r0 t0, .int r1 t1, .int r2 t2]) :: S))) (.inl rfl) F' (fun q hq => N' q (mem_I hq)) ⟨⟨⟨k1.trans (r1'.trans e1.symm), k2.trans (r2'.trans e2.symm), k3.trans (r3'.trans e3.symm)⟩, ob', _, tb', _, rfl, fun q hq => .tail _ (List.mem_append_right _ (.tail _ (.tail _ (sub q hq)))), ?_, hob', by omega, by push_cast; omega⟩, ?_⟩
    · intro q hq
      rcases List.mem_cons.mp hq with rfl | hq
      · exact fun z => off1_mem off5 (bx, ob3) (List.mem_append_right _ (.tail _ (.tail _ (.head _)))) z.symm
      · rcases List.mem_append.mp hq with hq | hq
        · exact fun z => Nat.ne_of_lt (gext q hq (bx, ob3) (.tail _ (.tail _ (.head _)))) z.symm
        · simp only [List.mem_cons] at hq
          rcases hq with rfl | rfl | hq
          · exact fun z => off1_mem off4 (bx, ob3) (.tail _ (.head _)) z.symm
          · exact fun z => off1_mem off3 (bx, ob3) (.head _) z.symm
          · exact off q hq
    · intro q hq
      rcases List.mem_cons.mp hq with rfl | hq
      · exact neI
      · rcases List.mem_cons.mp hq with rfl | hq
        · exact fun z => off1_mem off5 (I, oI) (List.mem_append_right _ (.tail _ (.tail _ (.tail _ (.head _))))) z.symm
        · rcases List.mem_append.mp hq with hq | hq
          · exact fun z => Nat.ne_of_lt (gext q hq (I, oI) (.tail _ (.tail _ (.tail _ (.head _))))) z.symm
          · simp only [List.mem_cons] at hq
            rcases hq with rfl | rfl | hq
            · exact fun z => off1_mem off4 (I, oI) (.tail _ (.tail _ (.head _))) z.symm
            · exact fun z => off1_mem off3 (I, oI) (.tail _ (.head _)) z.symm
            · exact offI q hq
end Mine
end
section
open PySem PySem.W PyProof.Rows PySem.Calls PySem.Spec
namespace Mine
local macro_rules | `(tactic| walk_at "pyIter ref") => `(tactic| (k_here; refine halt ?_))
theorem rng4 {r : Int} (h0 : 0 ≤ r) (h1 : r < 4) : Builtin.Range.small 0 (1 + r) 1 = true ∧ Builtin.Range.rangeSize 0 (1 + r) 1 = (((1 + r).toNat : Nat) : Int) := by
  rcases (by omega : r = 0 ∨ r = 1 ∨ r = 2 ∨ r = 3) with rfl | rfl | rfl | rfl <;> decide +kernel
set_option maxHeartbeats 8000000 in
theorem turns_ok {w : World} {mean : ExcName → Option Value} {mg mb : Str → Option Value} {dp un : Nat} {gd : Option (List Code)} {a : Addr} {ccd : Value} {outer : List Env} {A₀ : Around} {g : Heap} {L : Addr} {m : Str → Option Value} {s : Shared} {Q : Flow → Shared → Prop} {E : Value → Shared → Prop}
    {st : Stmt} {fd : FuncData} {bx c cb ct nin nout tu tl pl ld run inn out : Addr} {Sin S : List (Addr × Obj)} {vs : List Value} {ns : List Int} {nc nu nl np : Nat} {ob ocb oct oin oout : Obj} {tb : Tok} {n : Int} {σ : Shape}
    {T D : Nat → Addr} {es : Nat → List DictEntry} {nT : Nat → Nat} {tT tp : Nat → Tok} {kin kout : List (Str × Value)} {th : Nat → Nat → Addr} {xs : List (List (Int ⊕ Str) × Addr × Value)}
    (hst : turnsFor w.params = some st) (hfd : lawData w.params = some fd)
    (B : Below A₀ g outer g) (F : Fr g L s.heap m) (X : (Mine.h0.heap_1_1 w.params).In g) (T9 : Top Mine.h0.view_1_2 (looseW Mine.h0.view_1_2 [Str.ofString "UNSET", Str.ofString "Limits", Str.ofString "_law_places"]) mean mg mb g) (hd : dp + 60 < recursionLimit) (hu : un + 1000 < cLine)
    (N : News g L s.heap ((bx, ob) :: S)) (HL : Lined w Sin bx c nin nout tu S ob n tb σ tl pl ld nu nl np T D es nT tT tp oin oout kin kout th xs)
    (mcb : (cb, ocb) ∈ S) (mct : (ct, oct) ∈ S) (dcb : ocb.data = .cell (some (.ref bx))) (dct : oct.data = .cell (some (.ref tl)))
    (m1 : m (Str.ofString "run") = some (.ref run)) (m2 : m (Str.ofString "parents") = some (.ref pl)) (m3 : m (Str.ofString "laid") = some (.ref ld))
    (KR : RunOf S run inn out nin nout) (hI : IntsAre vs ns) (hln : ns.length ≤ 60) (hc : (c, W.listOf vs.toArray nc) ∈ S) (hlb : (bx == sysModules) = false)
    (hE : PassesOwn (model PySem.Challenge.rw_pp0008_01.row.prog w) (ktrTop dp un gd (Str.ofString "law") fd.scope L a ccd [(Str.ofString "types", ct), (Str.ofString "box", cb)] outer) (envX (Str.ofString "law") fd.scope L a ccd [(Str.ofString "types", ct), (Str.ofString "box", cb)]) E)
    (ret : ∀ (m' : Str → Option Value) (h' : Heap) (tk' : Nat), Fr g L h' m' → Q .next { s with heap := h', toks := tk' }) :
    wpAny (model PySem.Challenge.rw_pp0008_01.row.prog w) (ktrTop dp un gd (Str.ofString "law") fd.scope L a ccd [(Str.ofString "types", ct), (Str.ofString "box", cb)] outer) (exec st (envX (Str.ofString "law") fd.scope L a ccd [(Str.ofString "types", ct), (Str.ofString "box", cb)])) Q E s := by
  have hbody : turnBody w.params = some _ := rfl
  have hfd2 := hfd
  have hcb : [(Str.ofString "types", ct), (Str.ofString "box", cb)].lookup (Str.ofString "box") = some cb := rfl
  have e : some st = some _ := hst.symm.trans rfl
  injection e with e
  subst e
  have e : some fd = some _ := hfd.symm.trans rfl
  injection e with e
  subst e
  clear hst hfd
  dsimp only
  have f1 := HL.hob
  have f2 := HL.n0
  have f3 := HL.n1
  have f4 := HL.off
  revert X
  k_fill
  intro X
  (with_unfolding_all refine' For_invVF F ?k1 ?k2 ?_ (hE := hE); (case k1 => exact rfl); (case k2 => exact rfl); k_whole)
  k_steps
  unfold Halt
  (with_reducible rename Fr _ _ _ _ => kF9); (with_reducible rename News _ _ _ _ => kN9)
  obtain ⟨z1, z2⟩ := rng4 (by assumption) (by assumption)
  refine range_J (JT PySem.Challenge.rw_pp0008_01.row.prog w bx c S m) rfl (by assumption) z1 z2 kF9 kN9 ⟨⟨rfl, rfl, rfl⟩, _, _, _, _, rfl, fun q hq => hq, f4, by assumption, by omega, by omega⟩ ?_ ?_
  · rintro I i t m₁ nx h tk oI hi ⟨⟨j1, j2, j3⟩, ob2, n2, tb2, S2, rfl, j4, j5, j6, j7, j8⟩ hoff F2 N2
    refine turn_ok hbody hfd2 B F2 X T9 hd hu N2 HL j4 j5 (fun q hq => hoff q (.tail _ hq)) (hoff (bx, ob2) (.head _)) j6 j7 j8 (by omega) (j4 _ mcb) (j4 _ mct) dcb dct ?_ ?_ ?_ m1 m2 m3 KR hI hln (j4 _ hc) hlb hE
    · exact (if_neg (by decide +kernel)).trans (j1.trans m1)
    · exact (if_neg (by decide +kernel)).trans (j2.trans m2)
    · exact (if_neg (by decide +kernel)).trans (j3.trans m3)
  · intro m₁ nx h tk _ F2 _
    exact ret _ _ _ F2
end Mine
end
section
open PySem PySem.W PyProof.Rows PySem.Calls PySem.Spec
namespace Mine
section
variable {w : World} {Sin S : List (Addr × Obj)} {bx c nin nout tu ct tl pl ld L : Addr} {news : List (Addr × Obj)} {ob oct oin oout : Obj} {n : Int} {tb : Tok} {σ : Shape} {nu nl np : Nat} {T D : Nat → Addr} {es : Nat → List DictEntry} {nT : Nat → Nat} {tT tp : Nat → Tok} {kin kout : List (Str × Value)} {th : Nat → Nat → Addr} {xs : List (List (Int ⊕ Str) × Addr × Value)} {g h : Heap} {v : Option Value}
/-- a ledger less one address -/
def less (ct : Addr) (news : List (Addr × Obj)) : List (Addr × Obj) := news.filter fun p => decide (@Ne Nat p.1 ct)
theorem less_mem {a : Addr} {o : Obj} (N : News g L h ((bx, ob) :: news)) (hct : (ct, oct) ∈ news) (dct : oct.data = .cell v) (hm : (a, o) ∈ news) (hne : ∀ v, o.data ≠ .cell v) : (a, o) ∈ less ct news := by
  refine List.mem_filter.mpr ⟨hm, decide_eq_true fun e => ?_⟩
  have e' : a = ct := e
  subst e'
  have h1 := (N _ (.tail _ hct)).1
  have h2 := (N _ (.tail _ hm)).1
  have h3 : o = oct := Option.some.inj (h2.symm.trans h1)
  exact hne v (h3 ▸ dct)
theorem less_ne {p : Addr × Obj} (hp : p ∈ less ct news) : p.1 ≠ ct := of_decide_eq_true (List.mem_filter.mp hp).2
theorem less_sub {p : Addr × Obj} (hp : p ∈ less ct news) : p ∈ news := (List.mem_filter.mp hp).1
theorem dict_ne {prog : Program} {wo : World} {o : Obj} {kvs : List (Str × Value)} (H : o.IsDictOf (PySem.strKind prog wo) kvs) : ∀ v, o.data ≠ .cell v := by
  obtain ⟨e1, e2, _, hd, _⟩ := H
  intro v q
  rw [hd] at q
  cases q
theorem Lined.less (H : Lined w ((ct, oct) :: S) bx c nin nout tu news ob n tb σ tl pl ld nu nl np T D es nT tT tp oin oout kin kout th xs) (N : News g L h ((bx, ob) :: news)) (dct : oct.data = .cell v) (hS : ∀ p ∈ S, p.1 ≠ ct) :
    Lined w S bx c nin nout tu (less ct news) ob n tb σ tl pl ld nu nl np T D es nT tT tp oin oout kin kout th xs := by
  have hct := H.sub _ (.head _)
  have k : ∀ {a : Addr} {o : Obj}, (a, o) ∈ news → (∀ v, o.data ≠ .cell v) → (a, o) ∈ Mine.less ct news := fun hm hne => less_mem N hct dct hm hne
  refine ⟨H.p2, fun p hp => List.mem_filter.mpr ⟨H.sub _ (.tail _ hp), decide_eq_true (hS p hp)⟩, fun p hp => H.off p (less_sub hp), k H.tup (by intro v q; cases q), k H.types (by intro v q; cases q), k H.pars (by intro v q; cases q), H.hob, H.n0, H.n1, ?_, H.says, H.lo, ?_, ?_⟩
  · obtain ⟨o, eo, ep, h1, h2, h3, h4⟩ := H.laid.obj
    refine ⟨⟨o, eo, ep, k h1 (by intro v q; rw [h3] at q; cases q), h2, h3, h4⟩, fun x hx => ?_, H.laid.nodup⟩
    obtain ⟨o, items, m, h1, h2, h3, h4⟩ := H.laid.keys x hx
    exact ⟨o, items, m, k h1 (by intro v q; rw [h3] at q; cases q), h2, h3, h4⟩
  · have LL := H.line
    refine ⟨fun i hi => ?_, k LL.hin (dict_ne LL.hoin), LL.hoin, LL.loin, k LL.hout (dict_ne LL.hoout), LL.hoout, LL.loout, LL.vin, LL.vout, fun x w kk hx hw hk h0 => ?_⟩
    · obtain ⟨O, oo, ops, h1, h2, h3, h4, h5⟩ := LL.op i hi
      exact ⟨O, oo, ops, h1, k h2 (dict_ne h3), h3, h4, h5⟩
    · obtain ⟨dt, et, nt, sb, ds, eb, ns, ct9, nc, t, h1, h2, h3, h4, h5, h6, h7, h8⟩ := LL.thing x w kk hx hw hk h0
      exact ⟨dt, et, nt, sb, ds, eb, ns, ct9, nc, t, k h1 (by intro v q; cases q), k h2 (by intro v q; cases q), h3, k h4 (by intro v q; cases q), k h5 (by intro v q; cases q), h6, h7, k h8 (by intro v q; cases q)⟩
  · exact ⟨fun i hi => k (H.kinds.ty i hi) (by intro v q; cases q), fun i hi => k (H.kinds.di i hi) (by intro v q; cases q), H.kinds.num⟩
end
theorem Lined.up {w : World} {Sin news' : List (Addr × Obj)} {bx c nin nout tu tl pl ld : Addr} {news : List (Addr × Obj)} {ob oin oout : Obj} {n : Int} {tb : Tok} {σ : Shape} {nu nl np : Nat} {T D : Nat → Addr} {es : Nat → List DictEntry} {nT : Nat → Nat} {tT tp : Nat → Tok} {kin kout : List (Str × Value)} {th : Nat → Nat → Addr} {xs : List (List (Int ⊕ Str) × Addr × Value)}
    (H : Lined w Sin bx c nin nout tu news ob n tb σ tl pl ld nu nl np T D es nT tT tp oin oout kin kout th xs) (sub : ∀ p ∈ news, p ∈ news') (off : ∀ p ∈ news', p.1 ≠ bx) :
    Lined w Sin bx c nin nout tu news' ob n tb σ tl pl ld nu nl np T D es nT tT tp oin oout kin kout th xs :=
  ⟨H.p2, fun p hp => sub p (H.sub p hp), off, sub _ H.tup, sub _ H.types, sub _ H.pars, H.hob, H.n0, H.n1, H.laid.mono sub, H.says, H.lo,
    ⟨fun k hk => let ⟨O, oo, ops, h1, h2, r⟩ := H.line.op k hk; ⟨O, oo, ops, h1, sub _ h2, r⟩, sub _ H.line.hin, H.line.hoin, H.line.loin, sub _ H.line.hout, H.line.hoout, H.line.loout, H.line.vin, H.line.vout,
      fun x w k hx hw hk h0 => let ⟨dt, et, nt, sb, ds, eb, ns, ct, nc, t, h1, h2, h3, h4, h5, h6, h7, h8⟩ := H.line.thing x w k hx hw hk h0; ⟨dt, et, nt, sb, ds, eb, ns, ct, nc, t, sub _ h1, sub _ h2, h3, sub _ h4, sub _ h5, h6, h7, sub _ h8⟩⟩,
    ⟨fun k hk => sub _ (H.kinds.ty k hk), fun k hk => sub _ (H.kinds.di k hk), H.kinds.num⟩⟩
theorem law_off {cb ct bx no ni p : Nat} (c1 : cb < ct) (c2 : ct < bx) (c3 : bx < no) (c4 : no < ni) (hp : p = cb ∨ (bx < p ∧ p < no) ∨ (no < p ∧ p < ni)) : (p ≠ bx ∧ p ≠ ni ∧ p ≠ no) ∧ p ≠ ct := by
  rcases hp with rfl | ⟨h1, h2⟩ | ⟨h1, h2⟩
  · have g1 := Nat.lt_trans c1 c2
    have g2 := Nat.lt_trans g1 c3
    exact ⟨⟨Nat.ne_of_lt g1, Nat.ne_of_lt (Nat.lt_trans g2 c4), Nat.ne_of_lt g2⟩, Nat.ne_of_lt c1⟩
  · exact ⟨⟨Nat.ne_of_gt h1, Nat.ne_of_lt (Nat.lt_trans h2 c4), Nat.ne_of_lt h2⟩, Nat.ne_of_gt (Nat.lt_trans c2 h1)⟩
  · have g1 := Nat.lt_trans c3 h1
    exact ⟨⟨Nat.ne_of_gt g1, Nat.ne_of_lt h2, Nat.ne_of_gt h1⟩, Nat.ne_of_gt (Nat.lt_trans c2 g1)⟩
theorem line_law {w : World} {mean : ExcName → Option Value} {mg mb : Str → Option Value} {dp un : Nat} {gd : Option (List Code)} {cn : Str} {cs : Scope} {a : Addr} {ccd : Value} {cl : List (Str × Addr)} {outer : List Env} {A₀ : Around} {base h₀ : Heap} {L : Addr} {m : Str → Option Value} {s : Shared} {Q E : Value → Shared → Prop}
    {bx c inn out nin nout di do_ ct : Addr} {ob oin oout oct : Obj} {vs : List Value} {ns : List Int} {t1 : Tok} {nc nsi nso : Nat} {S : List (Addr × Obj)} {esi eso : List DictEntry} {v : Option Value}
    (B : Below A₀ base outer h₀) (F : Fr h₀ L s.heap m) (X : (Mine.h0.heap_1_1 w.params).In h₀) (T : Top Mine.h0.view_1_2 (looseW Mine.h0.view_1_2 [Str.ofString "UNSET", Str.ofString "Limits", Str.ofString "_law_places"]) mean mg mb h₀) (hk : cs.kind = .function) (hd : dp + 30 < recursionLimit) (hu : un + 600 < cLine)
    (N : News h₀ L s.heap ((bx, ob) :: (nin, oin) :: (nout, oout) :: (ct, oct) :: S))
    (hob : ob.IsDictOf (PySem.strKind PySem.Challenge.rw_pp0008_01.row.prog w) [(Str.ofString "cells", Value.ref c), (Str.ofString "at", Value.int 0 t1)])
    (hI : IntsAre vs ns) (hln : ns.length ≤ 60) (hc : (c, W.listOf vs.toArray nc) ∈ S)
    {cb : Addr} (hcb : @LT.lt Nat _ cb ct) (hct : @LT.lt Nat _ ct bx) (hpos : ∀ p ∈ S, p.1 = cb ∨ (@LT.lt Nat _ bx p.1 ∧ @LT.lt Nat _ p.1 nout) ∨ (@LT.lt Nat _ nout p.1 ∧ @LT.lt Nat _ p.1 nin)) (dct : oct.data = .cell v) (hlt1 : @LT.lt Nat _ bx nout) (hlt2 : @LT.lt Nat _ nout nin)
    (hoin : oin.IsDictOf (PySem.strKind PySem.Challenge.rw_pp0008_01.row.prog w) []) (hoout : oout.IsDictOf (PySem.strKind PySem.Challenge.rw_pp0008_01.row.prog w) [])
    (hlb : (bx == sysModules) = false) (hli : (nin == sysModules) = false) (hlo : (nout == sysModules) = false)
    (hinn : (inn, instObj 211 di) ∈ S) (hdi : (di, dictOf esi nsi) ∈ S) (hnames : getL (Str.ofString "names") esi = some (some (.ref nin)))
    (ho : (out, instObj 211 do_) ∈ S) (hdo : (do_, dictOf eso nso) ∈ S) (hnames' : getL (Str.ofString "names") eso = some (some (.ref nout)))
    (ret : ∀ (tu tl pl ld : Addr) (news : List (Addr × Obj)) (ob' : Obj) (n : Int) (tb : Tok) (σ : Shape) (nu nl np : Nat) (T D : Nat → Addr) (es : Nat → List DictEntry) (nT : Nat → Nat) (tT tp : Nat → Tok) (oin' oout' : Obj) (kin kout : List (Str × Value)) (th : Nat → Nat → Addr) (xs : List (List (Int ⊕ Str) × Addr × Value)) (h' : Heap) (tk' : Nat),
      Lined w S bx c nin nout tu news ob' n tb σ tl pl ld nu nl np T D es nT tT tp oin' oout' kin kout th xs → (∀ p ∈ news, p.1 ≠ ct) → (tu, tupO [.ref tl, .ref pl, .ref ld] nu) ∈ news → (∀ p ∈ news, p.1 ≠ bx) → Fr h₀ L h' m → News h₀ L h' ((bx, ob') :: (ct, oct) :: news) → Q (.ref tu) { s with heap := h', toks := tk' }) :
    wpAny (model PySem.Challenge.rw_pp0008_01.row.prog w) (ktrTop dp un gd cn cs L a ccd cl outer) (call (.ref 341) [.ref bx, .ref out, .ref inn]) Q E s := by
  have hb := Nat.lt_trans hct hlt1
  have hS : ∀ p ∈ S, p.1 ≠ bx ∧ p.1 ≠ nin ∧ p.1 ≠ nout := fun p hp => (law_off hcb hct hlt1 hlt2 (hpos p hp)).1
  have hSc : ∀ p ∈ S, p.1 ≠ ct := fun p hp => (law_off hcb hct hlt1 hlt2 (hpos p hp)).2
  refine line_ok B F X T hk hd hu N hob hI hln (.tail _ hc) (fun p hp => ?_) hlt1 hlt2 hoin hoout hlb hli hlo (.tail _ hinn) (.tail _ hdi) hnames (.tail _ ho) (.tail _ hdo) hnames' ?_
  · rcases List.mem_cons.mp hp with rfl | hp
    · exact ⟨Nat.ne_of_lt hct, Nat.ne_of_lt (Nat.lt_trans hb hlt2), Nat.ne_of_lt hb⟩
    · exact hS p hp
  · intro tu tl pl ld news ob' n tb σ nu nl np T9 D es nT tT tp oin' oout' kin kout th xs h' tk' HL F' N'
    have HL' := HL.less N' dct hSc
    refine ret tu tl pl ld (less ct news) ob' n tb σ nu nl np T9 D es nT tT tp oin' oout' kin kout th xs h' tk' HL' (fun p hp => less_ne hp) HL'.tup HL'.off F' (fun p hp => N' p ?_)
    rcases List.mem_cons.mp hp with rfl | hp
    · exact .head _
    · rcases List.mem_cons.mp hp with rfl | hp
      · exact .tail _ (HL.sub _ (.head _))
      · exact .tail _ (less_sub hp)
end Mine
end
section
open PySem PySem.W PyProof.Rows PySem.Calls PySem.Spec
namespace Mine
local macro_rules | `(tactic| k_get) => `(tactic| first | assumption | exact rfl)
local macro_rules | `(tactic| walk_at "call ref") => `(tactic| (k_here; (with_reducible show wpAny _ _ (call (Value.ref 232) _) _ _ _); k_dflt (refine' run_ok (by k_asm) (by k_asm) (by k_asm) (by k_asm) (by first | rfl | assumption) (by ktr_room) (by ktr_units) (by k_asm) ?_; intro _ _ _ _ _ _ _ _ _ _ _ _ _ hlt' _; (try k_lt hlt'))))
local macro_rules | `(tactic| walk_at "call ref") => `(tactic| (k_here; (with_reducible show wpAny _ _ (call (Value.ref 275) _) _ _ _); k_dflt (refine' task_ok (by k_asm) (by k_asm) (by k_asm) (by k_asm) (by first | rfl | assumption) (by ktr_room) (by ktr_units) (by k_asm) ?_; intro _ _ _ _ _ _ _ _ _ _ _ hlt' _; (try k_lt hlt'))))
local macro_rules | `(tactic| walk_at "call ref") => `(tactic| (k_here; (with_reducible show wpAny _ _ (call (Value.ref 254) _) _ _ _); k_dflt (refine' lim_ok (by k_asm) (by k_asm) (by k_asm) (by k_asm) (by first | rfl | assumption) (by ktr_room) (by ktr_units) (by k_asm) ?_; intro _ _ _ _ _)))
local macro_rules | `(tactic| walk_at "call ref") => `(tactic| (k_here; (with_reducible show wpAny _ _ (call (Value.ref 211) _) _ _ _); k_dflt (refine' frame_ok (by k_asm) (by k_asm) (by k_asm) (by k_asm) (by first | rfl | assumption) (by ktr_room) (by ktr_units) (by k_asm) ?_; intro _ _ _ _ _ _ _ _ _ _ _ _ _ _ hlt' _ _; (try k_lt hlt'))))
local macro_rules | `(tactic| walk_at "setAttr ref") => `(tactic| (k_here; k_dflt (refine' set_ab (by k_asm) (by k_asm) (by k_asm) (by k_inst) (by exact rfl) (by k_is) (by k_is) (by k_is) (by k_is) (by assumption) (by k_updF) (by assumption) ?_); intro _ _ _ _ N' _ _ e2'; (try dsimp only at N'); (try (have hline9 := (e2' (Str.ofString "line") (by decide +kernel)).trans (by assumption)))))
theorem perm_law {g h : Heap} {L : Addr} {a1 a2 ni b1 b2 no c1 c2 d1 d2 D bx ct cb : Addr × Obj} (N : News g L h (a1 :: a2 :: ni :: b1 :: b2 :: no :: c1 :: c2 :: d1 :: d2 :: D :: bx :: ct :: cb :: [])) : News g L h (bx :: ni :: no :: ct :: (a1 :: a2 :: b1 :: b2 :: c1 :: c2 :: d1 :: d2 :: D :: cb :: [])) := fun p hp => N p (by
  simp only [List.mem_cons, List.not_mem_nil, or_false] at hp ⊢
  rcases hp with h | h | h | h | h | h | h | h | h | h | h | h | h | h <;> simp only [h, true_or, or_true])
local macro_rules | `(tactic| walk_at "call ref") => `(tactic| (k_here; (with_reducible show wpAny _ _ (call (Value.ref 341) _) _ _ _); refine halt ?_))
local macro_rules | `(tactic| walk_at "exec For Name Call cons nil") => `(tactic| (k_here; refine halt ?_))
theorem law_env {P : Params} {fd : FuncData} {L a : Addr} {ccd : Value} (hfd : lawData P = some fd) : envOfC (Str.ofString "law") fd.scope L a ccd = envX (Str.ofString "law") fd.scope L a ccd [(Str.ofString "types", L + 1 + 1), (Str.ofString "box", L + 1)] := by
  have e : some fd = some _ := hfd.symm.trans rfl
  injection e with e
  subst e
  rfl
theorem turns_law {w : World} {mean : ExcName → Option Value} {mg mb : Str → Option Value} {a : Addr} {ccd : Value} {g : Heap} {L : Addr} {m : Str → Option Value} {s : Shared} {Q : Flow → Shared → Prop} {E : Value → Shared → Prop}
    {st : Stmt} {fd : FuncData} {bx c nin nout tu tl pl ld run inn out : Addr} {Sin S : List (Addr × Obj)} {vs : List Value} {ns : List Int} {nc nu nl np : Nat} {ob ocb oct oin oout : Obj} {tb : Tok} {n : Int} {σ : Shape}
    {T D : Nat → Addr} {es : Nat → List DictEntry} {nT : Nat → Nat} {tT tp : Nat → Tok} {kin kout : List (Str × Value)} {th : Nat → Nat → Addr} {xs : List (List (Int ⊕ Str) × Addr × Value)}
    (hst : turnsFor w.params = some st) (hfd : lawData w.params = some fd)
    (F : Fr g L s.heap m) (X : (Mine.h0.heap_1_1 w.params).In g) (T9 : Top Mine.h0.view_1_2 (looseW Mine.h0.view_1_2 [Str.ofString "UNSET", Str.ofString "Limits", Str.ofString "_law_places"]) mean mg mb g)
    (N : News g L s.heap ((bx, ob) :: S)) (HL : Lined w Sin bx c nin nout tu S ob n tb σ tl pl ld nu nl np T D es nT tT tp oin oout kin kout th xs)
    (mcb : (L + 1, ocb) ∈ S) (mct : (L + 1 + 1, oct) ∈ S) (dcb : ocb.data = .cell (some (.ref bx))) (dct : oct.data = .cell (some (.ref tl)))
    (m1 : m (Str.ofString "run") = some (.ref run)) (m2 : m (Str.ofString "parents") = some (.ref pl)) (m3 : m (Str.ofString "laid") = some (.ref ld))
    (KR : RunOf S run inn out nin nout) (hI : IntsAre vs ns) (hln : ns.length ≤ 60) (hc : (c, W.listOf vs.toArray nc) ∈ S) (hlb : (bx == sysModules) = false)
    (hE : PassesOwn (model PySem.Challenge.rw_pp0008_01.row.prog w) (callerA.deeper (envOfC (Str.ofString "law") fd.scope L a ccd)) (envOfC (Str.ofString "law") fd.scope L a ccd) E)
    (ret : ∀ (m' : Str → Option Value) (h' : Heap) (tk' : Nat), Fr g L h' m' → Q .next { s with heap := h', toks := tk' }) :
    wpAny (model PySem.Challenge.rw_pp0008_01.row.prog w) (callerA.deeper (envOfC (Str.ofString "law") fd.scope L a ccd)) (exec st (envOfC (Str.ofString "law") fd.scope L a ccd)) Q E s := by
  have e : (envOfC (Str.ofString "law") fd.scope L a ccd) = _ := law_env hfd
  rw [e] at hE ⊢
  exact turns_ok (dp := 1 + claimMargin + 1) (un := 7) (gd := some []) (outer := []) hst hfd (below_caller g) F X T9 (by decide +kernel) (by decide +kernel) N HL mcb mct dcb dct m1 m2 m3 KR hI hln hc hlb hE ret
set_option Elab.async true
theorem pass_on {A B C : Prop} (a : A) (b : B) (k : A → B → C) : C := k a b
theorem main.tw11813557347095834902 : True := True.intro
theorem main.tw11156056980113079860 : True := True.intro
theorem main.tw17359932362073319853 : True := True.intro
theorem main.tw3091050511159368115 : True := True.intro
theorem main.tw16826212616301561204 : True := True.intro
theorem main.tw8278394305814214361 : True := True.intro
theorem main.tw17181277949884725937 : True := True.intro
theorem main.tw4124465007535222370 : True := True.intro
theorem main.tw6909042917933305093 : True := True.intro
theorem main.tw1173877659695603703 : True := True.intro
theorem main.tw8699224262051402633 : True := True.intro
theorem main.tw12488115920082068600 : True := True.intro
theorem main.tw18428669670746838259 : True := True.intro
theorem main.tw8785732689226369382 : True := True.intro
theorem main.tw11916895729686876088 : True := True.intro
theorem main.tw16022705525353773275 : True := True.intro
theorem main.tw1130211791997205004 : True := True.intro
theorem main.tw10825838108423173272 : True := True.intro
theorem main.tw16787122599537026438 : True := True.intro
theorem main.tw14708136634888185200 : True := True.intro
theorem main.tw17146568849442343683 : True := True.intro
theorem main.tw2961873367106011192 : True := True.intro
theorem main.tw2647654807098235363 : True := True.intro
theorem main.tw4297412468100583042 : True := True.intro
theorem main.tw8643928048826747898 : True := True.intro
theorem main.tw3234112476842188716 : True := True.intro
theorem main.tw17201416709059790184 : True := True.intro
theorem main.tw3934531018447913466 : True := True.intro
theorem main.tw6112859857366181021 : True := True.intro
theorem main.tw1236483940969888574 : True := True.intro
theorem main.tw6910295442248876197 : True := True.intro
theorem main.tw4651154628705390771 : True := True.intro
theorem main.tw3557749057250611081 : True := True.intro
theorem main.tw11857135199678951331 : True := True.intro
theorem main.tw10999965473173681306 : True := True.intro
theorem main.tw656089360051881306 : True := True.intro
theorem main.tw31828345220925962 : True := True.intro
theorem main.tw5995161000843957690 : True := True.intro
theorem main.tw11003572833241299968 : True := True.intro
theorem main.tw8905464785575363620 : True := True.intro
theorem main.tw17057053908230417247 : True := True.intro
theorem main.tw3137596982192898869 : True := True.intro
theorem main.tw9561784451562097942 : True := True.intro
theorem main.tw10717781254789130011 : True := True.intro
theorem main.tw16035907590883218939 : True := True.intro
theorem main.tw10876375607700338302 : True := True.intro
theorem main.tw15079240505294077160 : True := True.intro
theorem main.tw3174701007982392895 : True := True.intro
theorem main.tw1630245386807275959 : True := True.intro
theorem main.tw7186131708394509389 : True := True.intro
theorem main.tw9190990891756207365 : True := True.intro
theorem main.tw15017983477296125989 : True := True.intro
theorem main.tw6385024630547198690 : True := True.intro
theorem main.tw14907226015203709474 : True := True.intro
theorem main.tw18315214858253571532 : True := True.intro
theorem main.tw8466321980469482115 : True := True.intro
theorem main.tw5240779543111244032 : True := True.intro
theorem main.tw6655696309031964122 : True := True.intro
theorem main.tw9268297945177815525 : True := True.intro
theorem main.tw18195925520682101353 : True := True.intro
theorem main.tw5102693214775723256 : True := True.intro
theorem main.tw14218914174604095658 : True := True.intro
theorem main.tw13962693860625380366 : True := True.intro
theorem main.tw11752208632293872130 : True := True.intro
theorem main.tw451873465583785326 : True := True.intro
theorem main.tw13667920496262714385 : True := True.intro
theorem main.tw11595355409239048105 : True := True.intro
theorem main.tw17974016328880235120 : True := True.intro
theorem main.tw4026956272090484662 : True := True.intro
theorem main.tw750237026923860459 : True := True.intro
set_option maxHeartbeats 8000000 in
theorem main : PySem.Challenge.rw_pp0008_01.Holds := by
  (w_on; o_law; k_head; (case hw => w_witness2))
  k_go0
  (with_reducible rename Frag.In _ _ => kX8); (with_reducible rename Top _ _ _ _ _ _ => kT8)
  refine @pass_on ((Mine.h0.heap_1_1 (World.params _)).In _) (Top Mine.h0.view_1_2 (looseW Mine.h0.view_1_2 [Str.ofString "UNSET", Str.ofString "Limits", Str.ofString "_law_places"]) _ _ _ _) _ kX8 kT8 ?_
  k_fill
  intro kX9 kT9
  k_fold
  k_steps
  unfold Halt
  (with_reducible rename Fr _ _ _ _ => kF9); (with_reducible rename News _ _ _ _ => kN9)
  refine' line_law ?zzB kF9 ?zzX ?zzT rfl ?zzd ?zzu (perm_law kN9) ?zzhob ?zzhI ?zzhln ?zzhc ?zzhcb ?zzhct ?zzhpos ?zzdct ?zzlt1 ?zzlt2 ?zzhoin ?zzhoout ?zzhlb ?zzhli ?zzhlo ?zzhinn ?zzhdi ?zzhnm ?zzho ?zzhdo ?zzhnm2 ?_
  case zzB => assumption
  case zzX => assumption
  case zzT => assumption
  case zzd => ktr_room
  case zzu => ktr_units
  case zzhob => assumption
  case zzhI => assumption
  case zzhln => omega
  case zzhc => k_mem
  case zzhct => omega
  case zzhcb => exact Nat.lt_succ_self _
  case zzhpos =>
    intro p hp
    simp only [List.mem_cons, List.not_mem_nil, or_false] at hp
    rcases hp with rfl | rfl | rfl | rfl | rfl | rfl | rfl | rfl | rfl | rfl
    · exact .inr (.inr ⟨by dsimp only; omega, by dsimp only; omega⟩)
    · exact .inr (.inr ⟨by dsimp only; omega, by dsimp only; omega⟩)
    · exact .inr (.inl ⟨by dsimp only; omega, by dsimp only; omega⟩)
    · exact .inr (.inl ⟨by dsimp only; omega, by dsimp only; omega⟩)
    · exact .inr (.inl ⟨by dsimp only; omega, by dsimp only; omega⟩)
    · exact .inr (.inl ⟨by dsimp only; omega, by dsimp only; omega⟩)
    · exact .inr (.inl ⟨by dsimp only; omega, by dsimp only; omega⟩)
    · exact .inr (.inl ⟨by dsimp only; omega, by dsimp only; omega⟩)
    · exact .inr (.inl ⟨by dsimp only; omega, by dsimp only; omega⟩)
    · exact .inl rfl
  case zzdct => assumption
  case zzlt1 => omega
  case zzlt2 => omega
  case zzhoin => assumption
  case zzhoout => assumption
  case zzhlb => assumption
  case zzhli => assumption
  case zzhlo => assumption
  case zzhinn => k_mem
  case zzhdi => k_mem
  case zzhnm => assumption
  case zzho => k_mem
  case zzhdo => k_mem
  case zzhnm2 => assumption
  intro tu tl pl ld news ob' n tb σ nu nl np T9 D9 es9 nT tT tp oin' oout' kin kout th xs h9 tk9 HL hnc htup hoff F9 N9
  k_steps
  unfold Halt
  (with_reducible rename Fr _ _ _ _ => kF9); (with_reducible rename News _ _ _ _ => kN9)
  have hfd : lawData (‹World›).params = some _ := rfl
  refine' turns_law (fd := _) ?zzhst hfd ?zzF ?zzX ?zzT ?zzN ?zzHL ?zzmcb ?zzmct ?zzdcb ?zzdct ?zzm1 ?zzm2 ?zzm3 ?zzKR ?zzhI ?zzhln ?zzhc ?zzhlb ?zzhE ?_
  case zzhst => exact rfl
  case zzF => exact kF9
  case zzN => exact kN9
  case zzmct => exact .head _
  case zzX => assumption
  case zzT => assumption
  case zzHL =>
    refine HL.up (fun p hp => .tail _ hp) (fun p hp => ?_)
    rcases List.mem_cons.mp hp with rfl | hp
    · show @Ne Nat _ _
      dsimp only
      omega
    · exact hoff p hp
  case zzm1 => exact rfl
  case zzm2 => exact rfl
  case zzm3 => exact rfl
  case zzdcb => assumption
  case zzmcb => exact .tail _ (HL.sub _ (by k_mem))
  case zzdct => assumption
  case zzhI => assumption
  case zzhln => omega
  case zzhc => exact .tail _ (HL.sub _ (by k_mem))
  case zzhlb => assumption
  case zzhE => passes_own
  case zzKR =>
    refine' ⟨⟨_, _, _, _, _, _, _, _, .tail _ (HL.sub _ ?zzqqa), .tail _ (HL.sub _ ?zzqqb), ?zzqqc, ?zzqqd, .tail _ (HL.sub _ ?zzqqe), .tail _ (HL.sub _ ?zzqqf), ?zzqqg⟩, ⟨_, _, _, .tail _ (HL.sub _ ?zzqqh), .tail _ (HL.sub _ ?zzqqi), ?zzqqj, ?zzqqk⟩, ⟨_, _, _, .tail _ (HL.sub _ ?zzqql), .tail _ (HL.sub _ ?zzqqm), ?zzqqn, ?zzqqo⟩⟩
    case zzqqa => k_mem
    case zzqqb => k_mem
    case zzqqc => assumption
    case zzqqe => k_mem
    case zzqqd => assumption
    case zzqqf => k_mem
    case zzqqh => k_mem
    case zzqqi => k_mem
    case zzqqg => assumption
    case zzqqj => assumption
    case zzqqk => assumption
    case zzqql => k_mem
    case zzqqm => k_mem
    case zzqqn => assumption
    case zzqqo => assumption
  intro m' h' tk' F8
  clear kF9 kN9
  k_steps
end Mine
end
set_option maxRecDepth 100000 in
theorem PySem.Challenge.cw_pp0008_01_holds : PySem.Challenge.rw_pp0008_01.Holds :=
  Mine.main
