import PyProof.Rows.All
import Wide.All
import OpenK.AllK
import Wide.FinOn
import PySem.Challenge.RW_sj0173_02
open PySem PySem.W PyProof.Rows PySem.Spec PySem.Calls
set_option Elab.async false
set_option maxRecDepth 100000
set_option maxHeartbeats 8000000
namespace Mine
open_top hd2 for PySem.Challenge.rw_sj0173_02
abbrev Led := List (Addr × Obj)
def Ctr (prog : Program) (w : World) (K : Frag) (p : Program) (loose : List Str) (mean : ExcName → Option Value) (mg mb : Str → Option Value) (f : Addr) (d0 u0 : Nat) (news : Led) (vs : List Value) (Post : Value → Led → Prop) : Prop :=
  ∀ (dp un : Nat) (gd : Option (List Code)) (cn : Str) (cs : Scope) (a : Addr) (ccd : Value) (cl : List (Str × Addr)) (outer : List Env) (A₀ : Around) (base h₀ : Heap) (L : Addr) (m : Str → Option Value) (s : Shared) (Q E : Value → Shared → Prop),
    Below A₀ base outer h₀ → Fr h₀ L s.heap m → K.In h₀ → News h₀ L s.heap news → Top p loose mean mg mb h₀ → cs.kind = .function → dp + d0 < recursionLimit → un + u0 < cLine →
    (∀ r news' h' tk', Fr h₀ L h' m → News h₀ L h' news' → Post r news' → Q r { s with heap := h', toks := tk' }) →
    wpAny (model prog w) (ktrTop dp un gd cn cs L a ccd cl outer) (call (.ref f) vs) Q E s

section
variable {prog : Program} {w : World} {K : Frag} {p : Program} {loose : List Str} {mean : ExcName → Option Value} {mg mb : Str → Option Value} {f : Addr} {d0 u0 : Nat} {news : Led} {vs : List Value} {Post : Value → Led → Prop}
theorem Ctr.use {dp un : Nat} {gd : Option (List Code)} {cn : Str} {cs : Scope} {a : Addr} {ccd : Value} {cl : List (Str × Addr)} {outer : List Env} {A₀ : Around} {base h₀ : Heap} {L : Addr} {m : Str → Option Value} {s : Shared} {Q E : Value → Shared → Prop}
    (C : Ctr prog w K p loose mean mg mb f d0 u0 news vs Post)
    (B : Below A₀ base outer h₀) (F : Fr h₀ L s.heap m) (X : K.In h₀) (N : News h₀ L s.heap news) (T : Top p loose mean mg mb h₀) (hk : cs.kind = .function)
    (hd : dp + d0 < recursionLimit) (hu : un + u0 < cLine)
    (ret : ∀ r news' h' tk', Fr h₀ L h' m → News h₀ L h' news' → Post r news' → Q r { s with heap := h', toks := tk' }) :
    wpAny (model prog w) (ktrTop dp un gd cn cs L a ccd cl outer) (call (.ref f) vs) Q E s := C _ _ _ _ _ _ _ _ _ _ _ _ _ _ _ _ _ B F X N T hk hd hu ret

theorem my_notin {A : Around} {E : Value → Shared → Prop} {s : Shared} {h₀ : Heap} {L d : Addr} {o : Obj} {kvs : List (Int × Value)} {k : Int} {t : Tok} {Q : Value → Shared → Prop} (N : News h₀ L s.heap news) (hp : (d, o) ∈ news) (hd : o.IsDictOf (PySem.intKind prog w) kvs) (lo : (d == sysModules) = false) (b : Bool) (hb : (valueAt kvs k).isSome = b)
    (h : Q (.bool (!b)) { s with toks := s.toks + 1 }) : wpAny (model prog w) A (compareOp .NotIn (.int k t) (.ref d)) Q E s :=
  wpAny_notIn_of (intKind_is _ _ _ _) lo (kda_dict N hp hd).mapOf (by rw [hb]; exact h)
theorem my_in {A : Around} {E : Value → Shared → Prop} {s : Shared} {h₀ : Heap} {L d : Addr} {o : Obj} {kvs : List (Int × Value)} {k : Int} {t : Tok} {Q : Value → Shared → Prop} (N : News h₀ L s.heap news) (hp : (d, o) ∈ news) (hd : o.IsDictOf (PySem.intKind prog w) kvs) (lo : (d == sysModules) = false) (b : Bool) (hb : (valueAt kvs k).isSome = b)
    (h : Q (.bool b) { s with toks := s.toks + 1 }) : wpAny (model prog w) A (compareOp .In (.int k t) (.ref d)) Q E s :=
  wpAny_in_of (intKind_is _ _ _ _) lo (kda_dict N hp hd).mapOf (by rw [hb]; exact h)
end

abbrev tupO (l : List Value) : Obj := { cls := .type "tuple", data := .seq l.toArray }

/-- one way's row -/
structure Row where
  fine : Int
  since : Int
  out : Bool

def RowAt (news : Led) (kvs : List (Int × Value)) (k : Int) : Option Row → Prop
  | none => valueAt kvs k = none
  | some q => ∃ t t1 t2, valueAt kvs k = some (.ref t) ∧ (t, tupO [.int q.fine t1, .int q.since t2, .bool q.out]) ∈ news

structure DmpAt (w : World) (news : Led) (d dx c r : Addr) (oc orr : Obj) (kc : List (Str × Value)) (kvs : List (Int × Value)) (top : Int) : Prop where
  hd : (d, instObj 154 dx) ∈ news
  hx : ∃ x1 y1 x2 y2 x3 y3 y4, (dx, dictOf [⟨x1, .str (Str.ofString "config") y1, .ref c⟩, ⟨x2, .str (Str.ofString "rows") y2, .ref r⟩, ⟨x3, .str (Str.ofString "top") y3, .int top y4⟩] 3) ∈ news
  hc : (c, oc) ∈ news
  hcd : oc.IsDictOf (PySem.strKind PySem.Challenge.rw_sj0173_02.row.prog w) kc
  hr : (r, orr) ∈ news
  hrd : orr.IsDictOf (PySem.intKind PySem.Challenge.rw_sj0173_02.row.prog w) kvs
  hrs : (r == sysModules) = false
  hlen : kvs.length ≤ 100

def CfgIs (kc : List (Str × Value)) (x : Str) (v : Int) : Prop := ∃ t, valueAt kc x = some (.int v t)

def dec (p s h : Int) : Int := ((p * (2 * h - s.fmod h)).fdiv (2 * h)).fdiv (2 ^ (s.fdiv h).toNat)
def penR (h : Int) : Option Row → Int → Int
  | none, _ => 0
  | some q, now => dec q.fine (now - q.since) h
/-- what a row must be -/
def RowOk (now : Int) : Option Row → Prop
  | none => True
  | some q => 0 ≤ q.fine ∧ q.fine < 1000000 ∧ 0 ≤ now - q.since ∧ now - q.since < 1000

theorem fdiv_nn {a b : Int} (ha : 0 ≤ a) (hb : 1 ≤ b) : 0 ≤ a.fdiv b := by
  rw [Int.fdiv_eq_ediv_of_nonneg _ (by omega)]
  exact Int.ediv_nonneg ha (by omega)
abbrev CtrL (w : World) (mean : ExcName → Option Value) (mg mb : Str → Option Value) (f : Addr) (d0 u0 : Nat) (news : Led) (vs : List Value) (Post : Value → Led → Prop) : Prop :=
  Ctr PySem.Challenge.rw_sj0173_02.row.prog w (hd2.heap_39 w.params) hd2.view_39 (looseW hd2.view_39 []) mean mg mb f d0 u0 news vs Post

def Stop (P : Prop) : Prop := P
theorem Stop.mk {P : Prop} (h : Stop P) : P := h
theorem Stop.go {P : Prop} (h : P) : Stop P := h
section
variable {d : Addr} {o : Obj} {l : Led} {g : Obj → Led}
theorem updF_upd (U : UpdF d o l g) (o' : Obj) : Upd d o o' l (g o') := by
  induction U with
  | head h => exact .head h
  | tail h _ ih => exact .tail h ih
theorem updF_new (U : UpdF d o l g) (o' : Obj) : (d, o') ∈ g o' := by
  obtain ⟨pre, post, _, hg, _, _⟩ := U.split
  rw [hg]
  exact List.mem_append_right _ (.head _)
theorem updF_mem (U : UpdF d o l g) : (d, o) ∈ l := by
  obtain ⟨pre, post, e, _, _, _⟩ := U.split
  rw [e]
  exact List.mem_append_right _ (.head _)
theorem updF_old (U : UpdF d o l g) {o' : Obj} {x : Addr} {ox : Obj} (h : (x, ox) ∈ l) (n : x ≠ d) : (x, ox) ∈ g o' := by
  obtain ⟨pre, post, e, hg, _, _⟩ := U.split
  rw [hg]
  rw [e] at h
  rcases List.mem_append.mp h with h | h
  · exact List.mem_append_left _ h
  · rcases List.mem_cons.mp h with h | h
    · exact absurd (congrArg Prod.fst h) n
    · exact List.mem_append_right _ (.tail _ h)
theorem updF_addr (U : UpdF d o l g) {o' : Obj} {x : Addr × Obj} (h : x ∈ g o') : ∃ y ∈ l, y.1 = x.1 := by
  obtain ⟨pre, post, e, hg, _, _⟩ := U.split
  rw [hg] at h
  rw [e]
  rcases List.mem_append.mp h with h | h
  · exact ⟨x, List.mem_append_left _ h, rfl⟩
  · rcases List.mem_cons.mp h with h | h
    · subst h; exact ⟨(d, o), List.mem_append_right _ (.head _), rfl⟩
    · exact ⟨x, List.mem_append_right _ (.tail _ h), rfl⟩
end
theorem fmod_bounds {a b : Int} (hb : 1 ≤ b) : 0 ≤ a.fmod b ∧ a.fmod b < b := by
  rw [Int.fmod_eq_emod_of_nonneg _ (by omega)]
  exact ⟨Int.emod_nonneg _ (by omega), Int.emod_lt_of_pos _ (by omega)⟩
section
variable {prog : Program} {w : World} {A : Around} {E : Value → Shared → Prop} {s : Shared} {h₀ : Heap} {L : Addr} {m : Str → Option Value} {news : Led}
theorem my_min3 {a b c : Int} {t u x : Tok} {Q : Value → Shared → Prop} (hh : A.handled = none) (F : Fr h₀ L s.heap m) (N : News h₀ L s.heap news)
    (h : ∀ v tv h' tk, (0 ≤ a ∧ 0 ≤ b ∧ 0 ≤ c → 0 ≤ v) → Fr h₀ L h' m → News h₀ L h' news → Q (.int v tv) { s with heap := h', toks := tk }) :
    wpAny (model prog w) A (call (.builtin "min") [.int a t, .int b u, .int c x]) Q E s :=
  min_three_ints hh fun h' tk hk => by
    have F' := F.grownK hk
    have N' : News h₀ L h' news := N.grown hk
    by_cases c1 : b < a
    · by_cases c2 : c < b
      · simp only [if_pos c1, if_pos c2]; exact h _ _ _ _ (fun q => q.2.2) F' N'
      · simp only [if_pos c1, if_neg c2]; exact h _ _ _ _ (fun q => q.2.1) F' N'
    · by_cases c2 : c < a
      · simp only [if_neg c1, if_pos c2]; exact h _ _ _ _ (fun q => q.2.2) F' N'
      · simp only [if_neg c1, if_neg c2]; exact h _ _ _ _ (fun q => q.1) F' N'
end
theorem my_ne {news : Led} {D r : Addr} {o : Obj} (h : ∀ p ∈ news, p.1 < D) (hm : (r, o) ∈ news) : (D : Nat) ≠ r := Nat.ne_of_gt (h _ hm)
theorem tup_eq {D : Addr} {x : Led} {f f' : Int} {t1 : Tok} {s : Value} {b b' : Bool} (e1 : f = f') (e2 : b = b') : (D, tupO [.int f t1, s, .bool b]) :: x = (D, tupO [.int f' t1, s, .bool b']) :: x := by rw [e1, e2]
theorem tok_any {α : Type} {M : Model} {A : Around} {t : Sem α} {Q : α → Shared → Prop} {E : Value → Shared → Prop} {hp : Heap} {g : Array GenState} {d : Drawn} {os : OsState} {X : Nat} (h : ∀ tk, wpAny M A t Q E ⟨hp, g, d, tk, os⟩) : wpAny M A t Q E ⟨hp, g, d, X, os⟩ := h X
theorem DmpAt.mono {w : World} {news news' : Led} {d dx c r : Addr} {oc orr : Obj} {kc : List (Str × Value)} {kvs : List (Int × Value)} {top : Int} (D : DmpAt w news d dx c r oc orr kc kvs top) (h : ∀ p ∈ news, p ∈ news') : DmpAt w news' d dx c r oc orr kc kvs top :=
  ⟨h _ D.hd, let ⟨x1, y1, x2, y2, x3, y3, y4, q⟩ := D.hx; ⟨x1, y1, x2, y2, x3, y3, y4, h _ q⟩, h _ D.hc, D.hcd, h _ D.hr, D.hrd, D.hrs, D.hlen⟩
theorem RowAt.mono {news news' : Led} {kvs : List (Int × Value)} {k : Int} {row : Option Row} (R : RowAt news kvs k row) (h : ∀ p ∈ news, p ∈ news') : RowAt news' kvs k row := by
  cases row with
  | none => exact R
  | some q => obtain ⟨t, t1, t2, e, hm⟩ := R; exact ⟨t, t1, t2, e, h _ hm⟩
theorem two_pow_pos (n : Nat) : (0 : Int) < 2 ^ n := Int.pow_pos (by decide)
theorem two_pow_mono {a b : Nat} (k : a ≤ b) : (2 : Int) ^ a ≤ 2 ^ b := by
  have h := Nat.pow_le_pow_right (show 0 < 2 by decide) k
  exact_mod_cast h
theorem dec_eq {p s h : Int} (hh : 1 ≤ h) : dec p s h = p * (2 * h - s % h) / (2 * h * 2 ^ (s / h).toNat) := by
  have h2 := two_pow_pos (s / h).toNat
  unfold dec
  rw [Int.fdiv_eq_ediv_of_nonneg s (by omega), Int.fmod_eq_emod_of_nonneg s (by omega), Int.fdiv_eq_ediv_of_nonneg _ (by omega), Int.fdiv_eq_ediv_of_nonneg _ (by omega), Int.ediv_ediv, if_neg (fun q => by omega), Int.sub_zero]
/-- the one fact that all others come from -/
theorem lt_dec {p s h g : Int} (hh : 1 ≤ h) : g < dec p s h ↔ (g + 1) * (2 * h * 2 ^ (s / h).toNat) ≤ p * (2 * h - s % h) := by
  have h2 := two_pow_pos (s / h).toNat
  have h3 : 0 < 2 * h * 2 ^ (s / h).toNat := Int.mul_pos (by omega) h2
  rw [dec_eq hh, Int.lt_iff_add_one_le, Int.le_ediv_iff_mul_le h3]
theorem dec_le_of {p s h p' s' h' : Int} (k : ∀ g, g < dec p s h → g < dec p' s' h') : dec p s h ≤ dec p' s' h' := by
  have := k (dec p s h - 1) (by omega)
  omega
theorem dec_nn {p s h : Int} (hp : 0 ≤ p) (hh : 1 ≤ h) : 0 ≤ dec p s h := by
  have : -1 < dec p s h := (lt_dec hh).mpr (by
    have := Int.emod_lt_of_pos s (show 0 < h by omega)
    have h1 : 0 ≤ p * (2 * h - s % h) := Int.mul_nonneg hp (by omega)
    simpa using h1)
  omega
theorem dec_mono {p p' s h : Int} (hh : 1 ≤ h) (hp : p ≤ p') : dec p s h ≤ dec p' s h := dec_le_of fun g hg => by
  rw [lt_dec hh] at hg ⊢
  have := Int.emod_lt_of_pos s (show 0 < h by omega)
  exact Int.le_trans hg (Int.mul_le_mul_of_nonneg_right hp (by omega))
theorem dec_zero {p h : Int} (hh : 1 ≤ h) : dec p 0 h = p := by
  rw [dec_eq hh]
  simp only [Int.zero_emod, Int.zero_ediv, Int.sub_zero, Int.toNat_zero, Int.pow_zero, Int.mul_one]
  exact Int.mul_ediv_cancel _ (by omega)
theorem dm_next {s h : Int} (hh : 1 ≤ h) : ((s + 1) / h = s / h ∧ (s + 1) % h = s % h + 1) ∨ ((s + 1) / h = s / h + 1 ∧ (s + 1) % h = 0 ∧ s % h = h - 1) := by
  have e := Int.mul_ediv_add_emod s h
  have hr := Int.emod_lt_of_pos s (show 0 < h by omega)
  have hr0 := Int.emod_nonneg s (show h ≠ 0 by omega)
  by_cases c : s % h + 1 < h
  · left
    have e2 : s + 1 = (s % h + 1) + h * (s / h) := by omega
    constructor
    · rw [e2, Int.add_mul_ediv_left _ _ (by omega), Int.ediv_eq_zero_of_lt (by omega) c, Int.zero_add]
    · rw [e2, Int.add_mul_emod_self_left, Int.emod_eq_of_lt (by omega) c]
  · right
    have e2 : s + 1 = h * (s / h + 1) := by rw [Int.mul_add, Int.mul_one]; omega
    refine ⟨?_, ?_, by omega⟩
    · rw [e2, Int.mul_ediv_cancel_left _ (by omega)]
    · rw [e2, Int.mul_emod_right]
theorem toNat_succ {t : Int} (ht : 0 ≤ t) : (t + 1).toNat = t.toNat + 1 := by omega
theorem dec_step {p s h : Int} (hp : 0 ≤ p) (hs : 0 ≤ s) (hh : 1 ≤ h) : dec p (s + 1) h ≤ dec p s h := dec_le_of fun g hg => by
  rw [lt_dec hh] at hg ⊢
  have ht : 0 ≤ s / h := Int.ediv_nonneg hs (by omega)
  have hr0 := Int.emod_nonneg s (show h ≠ 0 by omega)
  have hr := Int.emod_lt_of_pos s (show 0 < h by omega)
  rcases dm_next hh with ⟨e1, e2⟩ | ⟨e1, e2, e3⟩
  · rw [e1, e2] at hg
    exact Int.le_trans hg (Int.mul_le_mul_of_nonneg_left (by omega) hp)
  · rw [e1, e2, toNat_succ ht, Int.pow_succ] at hg
    rw [e3]
    have h3 : (g + 1) * (2 * h * 2 ^ (s / h).toNat) * 2 ≤ (p * h) * 2 := by
      have e4 : (g + 1) * (2 * h * (2 ^ (s / h).toNat * 2)) = (g + 1) * (2 * h * 2 ^ (s / h).toNat) * 2 := by rw [← Int.mul_assoc (2 * h), ← Int.mul_assoc (g + 1)]
      have e5 : p * (2 * h - 0) = p * h * 2 := by rw [Int.sub_zero, Int.mul_comm 2 h, ← Int.mul_assoc]
      rw [e4, e5] at hg
      exact hg
    have h4 : p * (2 * h - (h - 1)) = p * h + p := by rw [show 2 * h - (h - 1) = h + 1 by omega, Int.mul_add, Int.mul_one]
    rw [h4]
    omega
theorem dec_anti {p s s' h : Int} (hp : 0 ≤ p) (hs : 0 ≤ s) (hh : 1 ≤ h) (hss : s ≤ s') : dec p s' h ≤ dec p s h := by
  have all : ∀ n : Nat, dec p (s + n) h ≤ dec p s h := by
    intro n
    induction n with
    | zero => simp
    | succ n ih =>
      have := dec_step (p := p) (s := s + n) (h := h) hp (by omega) hh
      have e : s + ((n + 1 : Nat) : Int) = s + n + 1 := by omega
      rw [e]
      omega
  have := all (s' - s).toNat
  have e : s + ((s' - s).toNat : Int) = s' := by omega
  rwa [e] at this
theorem dec_le {p s h : Int} (hp : 0 ≤ p) (hs : 0 ≤ s) (hh : 1 ≤ h) : dec p s h ≤ p := by
  have := dec_anti (p := p) (s := 0) (s' := s) hp (by omega) hh hs
  rwa [dec_zero hh] at this
theorem dm_add {a b h : Int} (hh : 1 ≤ h) : (a % h + b % h < h ∧ (a + b) / h = a / h + b / h ∧ (a + b) % h = a % h + b % h) ∨ (h ≤ a % h + b % h ∧ (a + b) / h = a / h + b / h + 1 ∧ (a + b) % h = a % h + b % h - h) := by
  have ea := Int.mul_ediv_add_emod a h
  have eb := Int.mul_ediv_add_emod b h
  have ra := Int.emod_lt_of_pos a (show 0 < h by omega)
  have ra0 := Int.emod_nonneg a (show h ≠ 0 by omega)
  have rb := Int.emod_lt_of_pos b (show 0 < h by omega)
  have rb0 := Int.emod_nonneg b (show h ≠ 0 by omega)
  by_cases c : a % h + b % h < h
  · left
    have e2 : a + b = (a % h + b % h) + h * (a / h + b / h) := by rw [Int.mul_add]; omega
    refine ⟨c, ?_, ?_⟩
    · rw [e2, Int.add_mul_ediv_left _ _ (by omega), Int.ediv_eq_zero_of_lt (by omega) c, Int.zero_add]
    · rw [e2, Int.add_mul_emod_self_left, Int.emod_eq_of_lt (by omega) c]
  · right
    have e2 : a + b = (a % h + b % h - h) + h * (a / h + b / h + 1) := by rw [Int.mul_add, Int.mul_add, Int.mul_one]; omega
    refine ⟨by omega, ?_, ?_⟩
    · rw [e2, Int.add_mul_ediv_left _ _ (by omega), Int.ediv_eq_zero_of_lt (by omega) (by omega), Int.zero_add]
    · rw [e2, Int.add_mul_emod_self_left, Int.emod_eq_of_lt (by omega) (by omega)]
/-- a fine laid on what is left outweighs what would be left of the elder one -/
theorem dec_comp {p a b h x : Int} (hp : 0 ≤ p) (ha : 0 ≤ a) (hb : 0 ≤ b) (hh : 1 ≤ h) (hx : dec p a h < x) : dec p (a + b) h ≤ dec x b h := dec_le_of fun g hg => by
  have hx3 : p * (2 * h - a % h) < x * (2 * h * 2 ^ (a / h).toNat) := by
    have q : ¬ x - 1 < dec p a h := by omega
    rw [lt_dec hh] at q
    have e : x - 1 + 1 = x := by omega
    rw [e] at q
    omega
  rw [lt_dec hh] at hg ⊢
  have ra := Int.emod_lt_of_pos a (show 0 < h by omega)
  have ra0 := Int.emod_nonneg a (show h ≠ 0 by omega)
  have rb := Int.emod_lt_of_pos b (show 0 < h by omega)
  have rb0 := Int.emod_nonneg b (show h ≠ 0 by omega)
  have ta : 0 ≤ a / h := Int.ediv_nonneg ha (by omega)
  have tb : 0 ≤ b / h := Int.ediv_nonneg hb (by omega)
  have pa := two_pow_pos (a / h).toNat
  have pb := two_pow_pos (b / h).toNat
  have hz : 0 < 2 * h * 2 ^ (a / h).toNat := Int.mul_pos (by omega) pa
  refine Int.le_of_mul_le_mul_right ?_ hz
  generalize hA : (2 : Int) ^ (a / h).toNat = PA at *
  generalize hB : (2 : Int) ^ (b / h).toNat = PB at *
  generalize hu : a % h = u at *
  generalize hv : b % h = v at *
  have low : p * (2 * h - u) * (2 * h - v) ≤ x * (2 * h * PA) * (2 * h - v) := Int.mul_le_mul_of_nonneg_right (by omega) (by omega)
  have e1 : x * (2 * h - v) * (2 * h * PA) = x * (2 * h * PA) * (2 * h - v) := by rw [Int.mul_assoc, Int.mul_comm (2 * h - v), ← Int.mul_assoc]
  rw [e1]
  refine Int.le_trans ?_ low
  have e2 : (g + 1) * (2 * h * PB) * (2 * h * PA) = (g + 1) * (2 * h * (PA * PB)) * (2 * h) := by grind
  rw [e2]
  have tab : (a / h + b / h).toNat = (a / h).toNat + (b / h).toNat := by omega
  rcases dm_add hh with ⟨c, q1, q2⟩ | ⟨c, q1, q2⟩
  · rw [q1, q2, tab, Int.pow_add, hA, hB] at hg
    rw [hu, hv] at hg c
    have s1 : (g + 1) * (2 * h * (PA * PB)) * (2 * h) ≤ p * (2 * h - (u + v)) * (2 * h) := Int.mul_le_mul_of_nonneg_right hg (by omega)
    refine Int.le_trans s1 ?_
    have s2 : p * (2 * h - u) * (2 * h - v) = p * (2 * h - (u + v)) * (2 * h) + p * (u * v) := by grind
    have s3 : 0 ≤ p * (u * v) := Int.mul_nonneg hp (Int.mul_nonneg ra0 rb0)
    omega
  · rw [q1, q2, show a / h + b / h + 1 = (a / h + b / h) + 1 from rfl, toNat_succ (by omega), tab, Int.pow_succ, Int.pow_add, hA, hB] at hg
    rw [hu, hv] at hg c
    have s1 : (g + 1) * (2 * h * (PA * PB * 2)) * h ≤ p * (2 * h - (u + v - h)) * h := Int.mul_le_mul_of_nonneg_right hg (by omega)
    have s0 : (g + 1) * (2 * h * (PA * PB)) * (2 * h) = (g + 1) * (2 * h * (PA * PB * 2)) * h := by grind
    rw [s0]
    refine Int.le_trans s1 ?_
    have s2 : p * (2 * h - u) * (2 * h - v) = p * (2 * h - (u + v - h)) * h + p * ((h - u) * (h - v)) := by grind
    have s3 : 0 ≤ p * ((h - u) * (h - v)) := Int.mul_nonneg hp (Int.mul_nonneg (by omega) (by omega))
    omega
theorem dec_half {p t h : Int} (hh : 1 ≤ h) (hp : 0 ≤ p) (hb : p < 1000000) {g : Int} (hg : 1 ≤ g) (k : g < dec p (t * h) h) : t < 20 := by
  rw [lt_dec hh, Int.mul_ediv_cancel _ (by omega), Int.mul_emod_left, Int.sub_zero] at k
  have k2 : (g + 1) * 2 ^ t.toNat * (2 * h) ≤ p * (2 * h) := by
    have e : (g + 1) * (2 * h * 2 ^ t.toNat) = (g + 1) * 2 ^ t.toNat * (2 * h) := by grind
    rw [e] at k
    exact k
  have k3 := Int.le_of_mul_le_mul_right k2 (by omega)
  have p1 := two_pow_pos t.toNat
  have k4 : 2 * 2 ^ t.toNat ≤ (g + 1) * 2 ^ t.toNat := Int.mul_le_mul_of_nonneg_right (by omega) (by omega)
  have k5 : (2 : Int) ^ t.toNat < 2 ^ 20 := by omega
  have k6 : t.toNat < 20 := by
    refine Decidable.byContradiction fun q => ?_
    have : (2 : Int) ^ 20 ≤ 2 ^ t.toNat := two_pow_mono (by omega)
    omega
  omega
def Least (p goal h v : Int) : Prop := 0 ≤ v ∧ v < 1000 ∧ dec p v h ≤ goal ∧ ∀ s, 0 ≤ s → s < v → goal < dec p s h
theorem least_zero {p goal h : Int} (hh : 1 ≤ h) (k : p ≤ goal) : Least p goal h 0 := ⟨by omega, by omega, by rw [dec_zero hh]; exact k, fun s h1 h2 => by omega⟩
theorem least_of {p goal h n b : Int} (hp : 0 < p) (hpb : p < 1000000) (hg : 1 ≤ goal) (hh : 1 ≤ h) (hh5 : h ≤ 5) (hn : 0 ≤ n) (k1 : goal < dec p (n * h) h) (k2 : ¬ goal < dec p ((n + 1) * h) h)
    (hb : b = ((goal + 1) * (2 * h * 2 ^ n.toNat) - 1).fdiv p) : Least p goal h (n * h + (if 2 * h - b > 0 then 2 * h - b else 0)) := by
  rw [Int.fdiv_eq_ediv_of_nonneg _ (by omega)] at hb
  have n20 := dec_half hh (by omega) hpb hg k1
  have bnd : ∀ r, p * r ≤ (goal + 1) * (2 * h * 2 ^ n.toNat) - 1 ↔ r ≤ b := fun r => by rw [hb, Int.le_ediv_iff_mul_le hp, Int.mul_comm r p]
  have at' : ∀ r, 0 ≤ r → r < h → (goal < dec p (n * h + r) h ↔ ¬ 2 * h - r ≤ b) := fun r h0 h1 => by
    rw [lt_dec hh, ← bnd]
    have e1 : (n * h + r) / h = n := by rw [Int.add_comm, Int.add_mul_ediv_right _ _ (by omega), Int.ediv_eq_zero_of_lt h0 h1, Int.zero_add]
    have e2 : (n * h + r) % h = r := by rw [Int.add_comm, Int.add_mul_emod_self_right, Int.emod_eq_of_lt h0 h1]
    rw [e1, e2]
    omega
  have z0 : ¬ 2 * h ≤ b := by
    have q := (at' 0 (by omega) (by omega)).mp (by rw [Int.add_zero]; exact k1)
    rwa [Int.sub_zero] at q
  have z1 : h ≤ b := by
    rw [lt_dec hh, Int.mul_ediv_cancel _ (by omega), Int.mul_emod_left, Int.sub_zero, toNat_succ hn, Int.pow_succ] at k2
    have e : (goal + 1) * (2 * h * (2 ^ n.toNat * 2)) = (goal + 1) * (2 * h * 2 ^ n.toNat) * 2 := by grind
    have e2 : p * (2 * h) = p * h * 2 := by grind
    rw [e, e2] at k2
    exact (bnd h).mp (by omega)
  rw [if_pos (by omega)]
  have nh0 : 0 ≤ n * h := Int.mul_nonneg hn (by omega)
  have nh1 : n * h ≤ 20 * 5 := Int.le_trans (Int.mul_le_mul_of_nonneg_right (show n ≤ 20 by omega) (by omega)) (by omega)
  refine ⟨by omega, by omega, ?_, fun s s0 s1 => ?_⟩
  · by_cases c : 2 * h - b < h
    · have q := (not_congr (at' (2 * h - b) (by omega) c)).mpr (by omega)
      omega
    · have e : 2 * h - b = h := by omega
      rw [e]
      have e2 : n * h + h = (n + 1) * h := by rw [Int.add_mul, Int.one_mul]
      rw [e2]
      omega
  · by_cases c : s < n * h
    · have := dec_anti (p := p) (s := s) (s' := n * h) (h := h) (by omega) s0 hh (by omega)
      omega
    · have q := (at' (s - n * h) (by omega) (by omega)).mpr (by omega)
      rwa [show n * h + (s - n * h) = s by omega] at q
section
variable {prog : Program} {w : World} {K : Frag} {p : Program} {loose : List Str} {mean : ExcName → Option Value} {mg mb : Str → Option Value} {f : Addr} {d0 u0 : Nat} {news : Led} {vs : List Value} {Post : Value → Led → Prop}
theorem Ctr.use9 {dp un : Nat} {gd : Option (List Code)} {cn : Str} {cs : Scope} {a : Addr} {ccd : Value} {cl : List (Str × Addr)} {outer : List Env} {A₀ : Around} {base h₀ : Heap} {L : Addr} {m : Str → Option Value} {s : Shared} {Q E : Value → Shared → Prop}
    (B : Below A₀ base outer h₀) (F : Fr h₀ L s.heap m) (X : K.In h₀) (N : News h₀ L s.heap news) (T : Top p loose mean mg mb h₀) (hk : cs.kind = .function)
    (hd : dp + d0 < recursionLimit) (hu : un + u0 < cLine)
    (C : Ctr prog w K p loose mean mg mb f d0 u0 news vs Post)
    (ret : ∀ r news' h' tk', Fr h₀ L h' m → News h₀ L h' news' → Post r news' → Q r { s with heap := h', toks := tk' }) :
    wpAny (model prog w) (ktrTop dp un gd cn cs L a ccd cl outer) (call (.ref f) vs) Q E s := C _ _ _ _ _ _ _ _ _ _ _ _ _ _ _ _ _ B F X N T hk hd hu ret
end
local macro_rules | `(tactic| walk_at $s:str) => `(tactic| k_extra $s)
local macro_rules | `(tactic| k_updF) => `(tactic| k_extra "my updF")
local macro_rules | `(tactic| k_upd) => `(tactic| k_extra "my upd")
local macro_rules | `(tactic| k_mem) => `(tactic| k_extra "my mem")
local macro_rules | `(tactic| is_list) => `(tactic| k_extra "my islist")
theorem decayed_c {w : World} {mean : ExcName → Option Value} {mg mb : Str → Option Value} {news : Led} (p s h : Int) (tp ts th : Tok)
    (hp : 0 ≤ p ∧ p < 1000000) (hs : 0 ≤ s ∧ s < 1000) (hh : 1 ≤ h ∧ h ≤ 5) :
    CtrL w mean mg mb 67 1 8 news [.int p tp, .int s ts, .int h th] (fun r news' => news' = news ∧ ∃ t, r = .int (dec p s h) t) := by
  (k_with_none; (k_with "my updF" => (first | assumption | exact UpdF.tail (my_ne (by assumption) (by assumption)) (by assumption))); (k_with "my upd" => (exact updF_upd (by assumption) _)); (k_with "my mem" => (first | exact updF_new (by assumption) _ | exact updF_old (by assumption) (by assumption) (by assumption) | (refine List.mem_cons_of_mem _ ?_; k_mem) | (refine List.mem_append_right _ ?_; k_mem))); (k_with "my islist" => (exact News.isList (by k_asm) (by k_mem))); (k_with "my fact" => (first | assumption | trivial | omega | (refine ⟨?_, ?_⟩ <;> omega) | ((try dsimp only); first | assumption | omega | l_fact))); (k_with "compareOp NotIn int ref" => ((k_here; k_dflt (refine my_notin (by k_asm) (by k_mem) (by k_asm) (by k_asm) _ (by assumption) ?_); (try dsimp only [Bool.not_true, Bool.not_false])))); (k_with "compareOp In int ref" => ((k_here; k_dflt (refine my_in (by k_asm) (by k_mem) (by k_asm) (by k_asm) _ (by assumption) ?_); (try dsimp only)))); (k_with "subscriptTail" => ((k_here; k_dflt (first
  | ((with_reducible show wpAny _ _ (subscriptTail _ _ (Value.ref _) (Value.str _ _)) _ _ _); refine kda_item (knd := PySem.strKind _ _) (by k_asm) (by k_mem) (by k_asm) (strKind_is _ _ _ _) (by assumption) ?_; (try dsimp only))
  | ((with_reducible show wpAny _ _ (subscriptTail _ _ (Value.ref _) (Value.int _ _)) _ _ _); refine kda_item (knd := PySem.intKind _ _) (by k_asm) (by k_mem) (by k_asm) (intKind_is _ _ _ _) (by assumption) ?_; (try dsimp only)))))); (k_with "call builtin:min" => ((k_here; (with_reducible show wpAny _ _ (call (Value.builtin _) [Value.int _ _, Value.int _ _, Value.int _ _]) _ _ _); (with_unfolding_all refine my_min3 (by with_unfolding_all rfl) (by k_asm) (by k_asm) ?_); k_whole); intro v9 t9 h9 tk9 c9 F9 N9; (have d9 := c9 (by omega)); clear c9; (try dsimp only))); (k_with "setItem ref int" => ((k_here; (with_reducible show wpAny _ _ (setItem (Value.ref _) (Value.int _ _) (Value.ref _)) _ _ _); k_dflt (refine kda_set (knd := PySem.intKind _ _) (by k_asm) (by k_asm) (by k_updF) (by k_asm) (intKind_is _ _ _ _) (by rw [sizeLine_eq]; omega) ?_)); intro h9 o9 F9 N9 hd9; (try dsimp only at N9); (try dsimp only))); (k_with "my sub" => (intro p9 hp9; repeat (first | exact hp9 | assumption | refine List.mem_cons_of_mem _ ?_ | refine List.mem_append_right _ ?_))))
  have h1 : 0 ≤ s.fdiv h := fdiv_nn hs.1 hh.1
  (unfold CtrL Ctr; k_fill; intro dp un gd cn cs a ccd cl outer A₀ base h₀ L m s0 Q E B F X N T hk hd hu hret; refine wpAny_call ?_; k_dflt ktr_enter)
  k_steps
  all_goals (refine hret _ news _ _ (by k_asm) ?_ ⟨rfl, _, rfl⟩; (first | assumption | (refine cb_drop (by assumption) ?_; intro q9 hq9; simp only [List.mem_cons, hq9, or_true])))
theorem penalty_c {w : World} {mean : ExcName → Option Value} {mg mb : Str → Option Value} {news : Led} {d dx c r : Addr} {oc orr : Obj} {kc : List (Str × Value)} {kvs : List (Int × Value)} {top : Int} (k now half : Int) (row : Option Row) (tk tn : Tok)
    (D : DmpAt w news d dx c r oc orr kc kvs top) (hhalf : CfgIs kc (Str.ofString "half") half) (hh : 1 ≤ half ∧ half ≤ 5) (hrow : RowAt news kvs k row) (hok : RowOk now row) :
    CtrL w mean mg mb 102 2 16 news [.ref d, .int k tk, .int now tn] (fun r news' => news' = news ∧ ∃ t, r = .int (penR half row now) t) := by
  (k_with_none; (k_with "my updF" => (first | assumption | exact UpdF.tail (my_ne (by assumption) (by assumption)) (by assumption))); (k_with "my upd" => (exact updF_upd (by assumption) _)); (k_with "my mem" => (first | exact updF_new (by assumption) _ | exact updF_old (by assumption) (by assumption) (by assumption) | (refine List.mem_cons_of_mem _ ?_; k_mem) | (refine List.mem_append_right _ ?_; k_mem))); (k_with "my islist" => (exact News.isList (by k_asm) (by k_mem))); (k_with "my fact" => (first | assumption | trivial | omega | (refine ⟨?_, ?_⟩ <;> omega) | ((try dsimp only); first | assumption | omega | l_fact))); (k_with "compareOp NotIn int ref" => ((k_here; k_dflt (refine my_notin (by k_asm) (by k_mem) (by k_asm) (by k_asm) _ (by assumption) ?_); (try dsimp only [Bool.not_true, Bool.not_false])))); (k_with "compareOp In int ref" => ((k_here; k_dflt (refine my_in (by k_asm) (by k_mem) (by k_asm) (by k_asm) _ (by assumption) ?_); (try dsimp only)))); (k_with "subscriptTail" => ((k_here; k_dflt (first
  | ((with_reducible show wpAny _ _ (subscriptTail _ _ (Value.ref _) (Value.str _ _)) _ _ _); refine kda_item (knd := PySem.strKind _ _) (by k_asm) (by k_mem) (by k_asm) (strKind_is _ _ _ _) (by assumption) ?_; (try dsimp only))
  | ((with_reducible show wpAny _ _ (subscriptTail _ _ (Value.ref _) (Value.int _ _)) _ _ _); refine kda_item (knd := PySem.intKind _ _) (by k_asm) (by k_mem) (by k_asm) (intKind_is _ _ _ _) (by assumption) ?_; (try dsimp only)))))); (k_with "call builtin:min" => ((k_here; (with_reducible show wpAny _ _ (call (Value.builtin _) [Value.int _ _, Value.int _ _, Value.int _ _]) _ _ _); (with_unfolding_all refine my_min3 (by with_unfolding_all rfl) (by k_asm) (by k_asm) ?_); k_whole); intro v9 t9 h9 tk9 c9 F9 N9; (have d9 := c9 (by omega)); clear c9; (try dsimp only))); (k_with "setItem ref int" => ((k_here; (with_reducible show wpAny _ _ (setItem (Value.ref _) (Value.int _ _) (Value.ref _)) _ _ _); k_dflt (refine kda_set (knd := PySem.intKind _ _) (by k_asm) (by k_asm) (by k_updF) (by k_asm) (intKind_is _ _ _ _) (by rw [sizeLine_eq]; omega) ?_)); intro h9 o9 F9 N9 hd9; (try dsimp only at N9); (try dsimp only))); (k_with "my sub" => (intro p9 hp9; repeat (first | exact hp9 | assumption | refine List.mem_cons_of_mem _ ?_ | refine List.mem_append_right _ ?_))); (k_with "call ref" => ((k_here; (with_reducible show wpAny _ _ (call (Value.ref 67) _) _ _ _); k_dflt (refine Ctr.use9 (by k_asm) (by k_asm) (by k_asm) (by k_asm) (by k_asm) (by first | exact rfl | assumption) (by ktr_room) (by first | ktr_units | exact Nat.le_of_ble_eq_true rfl) (decayed_c _ _ _ _ _ _ (by walk_at "my fact") (by walk_at "my fact") (by walk_at "my fact")) ?_); k_whole); intro r9 n9 h9 tk9 F9 N9 P9; obtain ⟨e9, t9, e8⟩ := P9; replace e9 := e9.symm; subst e9; subst e8; (try dsimp only); (try k_fold))))
  obtain ⟨hD, hX, hC, hCd, hR, hRd, hRs, hLen⟩ := D
  obtain ⟨x1, y1, x2, y2, x3, y3, y4, hX⟩ := hX
  obtain ⟨th, hhalf⟩ := hhalf
  cases row with
  | none =>
    have hv : (valueAt kvs k).isSome = false := by have h : valueAt kvs k = none := hrow; rw [h]; rfl
    (unfold CtrL Ctr; k_fill; intro dp un gd cn cs a ccd cl outer A₀ base h₀ L m s0 Q E B F X N T hk hd hu hret; refine wpAny_call ?_; k_dflt ktr_enter)
    k_steps
    all_goals (refine hret _ news _ _ (by k_asm) ?_ ⟨rfl, _, rfl⟩; (first | assumption | (refine cb_drop (by assumption) ?_; intro q9 hq9; simp only [List.mem_cons, hq9, or_true])))
  | some q =>
    obtain ⟨t, t1, t2, hv0, hT⟩ := hrow
    obtain ⟨ho1, ho2, ho3, ho4⟩ := hok
    have hv : (valueAt kvs k).isSome = true := by rw [hv0]; rfl
    (unfold CtrL Ctr; k_fill; intro dp un gd cn cs a ccd cl outer A₀ base h₀ L m s0 Q E B F X N T hk hd hu hret; refine wpAny_call ?_; k_dflt ktr_enter)
    k_steps
    all_goals (refine hret _ news _ _ (by k_asm) ?_ ⟨rfl, _, rfl⟩; (first | assumption | (refine cb_drop (by assumption) ?_; intro q9 hq9; simp only [List.mem_cons, hq9, or_true])))
def outR (h reuse : Int) : Option Row → Int → Bool
  | none, _ => false
  | some q, now => q.out && decide (reuse < penR h (some q) now)
theorem is_left_out_c {w : World} {mean : ExcName → Option Value} {mg mb : Str → Option Value} {news : Led} {d dx c r : Addr} {oc orr : Obj} {kc : List (Str × Value)} {kvs : List (Int × Value)} {top : Int} (k now half reuse : Int) (row : Option Row) (tk tn : Tok)
    (D : DmpAt w news d dx c r oc orr kc kvs top) (hhalf : CfgIs kc (Str.ofString "half") half) (hreuse : CfgIs kc (Str.ofString "reuse") reuse) (hh : 1 ≤ half ∧ half ≤ 5) (hrow : RowAt news kvs k row) (hok : RowOk now row) :
    CtrL w mean mg mb 116 3 24 news [.ref d, .int k tk, .int now tn] (fun r news' => news' = news ∧ r = .bool (outR half reuse row now)) := by
  (k_with_none; (k_with "my updF" => (first | assumption | exact UpdF.tail (my_ne (by assumption) (by assumption)) (by assumption))); (k_with "my upd" => (exact updF_upd (by assumption) _)); (k_with "my mem" => (first | exact updF_new (by assumption) _ | exact updF_old (by assumption) (by assumption) (by assumption) | (refine List.mem_cons_of_mem _ ?_; k_mem) | (refine List.mem_append_right _ ?_; k_mem))); (k_with "my islist" => (exact News.isList (by k_asm) (by k_mem))); (k_with "my fact" => (first | assumption | trivial | omega | (refine ⟨?_, ?_⟩ <;> omega) | ((try dsimp only); first | assumption | omega | l_fact))); (k_with "compareOp NotIn int ref" => ((k_here; k_dflt (refine my_notin (by k_asm) (by k_mem) (by k_asm) (by k_asm) _ (by assumption) ?_); (try dsimp only [Bool.not_true, Bool.not_false])))); (k_with "compareOp In int ref" => ((k_here; k_dflt (refine my_in (by k_asm) (by k_mem) (by k_asm) (by k_asm) _ (by assumption) ?_); (try dsimp only)))); (k_with "subscriptTail" => ((k_here; k_dflt (first
  | ((with_reducible show wpAny _ _ (subscriptTail _ _ (Value.ref _) (Value.str _ _)) _ _ _); refine kda_item (knd := PySem.strKind _ _) (by k_asm) (by k_mem) (by k_asm) (strKind_is _ _ _ _) (by assumption) ?_; (try dsimp only))
  | ((with_reducible show wpAny _ _ (subscriptTail _ _ (Value.ref _) (Value.int _ _)) _ _ _); refine kda_item (knd := PySem.intKind _ _) (by k_asm) (by k_mem) (by k_asm) (intKind_is _ _ _ _) (by assumption) ?_; (try dsimp only)))))); (k_with "call builtin:min" => ((k_here; (with_reducible show wpAny _ _ (call (Value.builtin _) [Value.int _ _, Value.int _ _, Value.int _ _]) _ _ _); (with_unfolding_all refine my_min3 (by with_unfolding_all rfl) (by k_asm) (by k_asm) ?_); k_whole); intro v9 t9 h9 tk9 c9 F9 N9; (have d9 := c9 (by omega)); clear c9; (try dsimp only))); (k_with "setItem ref int" => ((k_here; (with_reducible show wpAny _ _ (setItem (Value.ref _) (Value.int _ _) (Value.ref _)) _ _ _); k_dflt (refine kda_set (knd := PySem.intKind _ _) (by k_asm) (by k_asm) (by k_updF) (by k_asm) (intKind_is _ _ _ _) (by rw [sizeLine_eq]; omega) ?_)); intro h9 o9 F9 N9 hd9; (try dsimp only at N9); (try dsimp only))); (k_with "my sub" => (intro p9 hp9; repeat (first | exact hp9 | assumption | refine List.mem_cons_of_mem _ ?_ | refine List.mem_append_right _ ?_))); (k_with "call ref" => ((k_here; (with_reducible show wpAny _ _ (call (Value.ref 67) _) _ _ _); k_dflt (refine Ctr.use9 (by k_asm) (by k_asm) (by k_asm) (by k_asm) (by k_asm) (by first | exact rfl | assumption) (by ktr_room) (by first | ktr_units | exact Nat.le_of_ble_eq_true rfl) (decayed_c _ _ _ _ _ _ (by walk_at "my fact") (by walk_at "my fact") (by walk_at "my fact")) ?_); k_whole); intro r9 n9 h9 tk9 F9 N9 P9; obtain ⟨e9, t9, e8⟩ := P9; replace e9 := e9.symm; subst e9; subst e8; (try dsimp only); (try k_fold))); (k_with "call ref" => ((k_here; (with_reducible show wpAny _ _ (call (Value.ref 102) _) _ _ _); k_dflt (refine Ctr.use9 (by k_asm) (by k_asm) (by k_asm) (by k_asm) (by k_asm) (by first | exact rfl | assumption) (by ktr_room) (by first | ktr_units | exact Nat.le_of_ble_eq_true rfl) (penalty_c _ _ _ _ _ _ (by first | assumption | exact DmpAt.mono (by assumption) (by walk_at "my sub")) (by assumption) (by assumption) (by first | assumption | exact RowAt.mono (by assumption) (by walk_at "my sub")) (by assumption)) ?_); k_whole); intro r9 n9 h9 tk9 F9 N9 P9; obtain ⟨e9, t9, e8⟩ := P9; replace e9 := e9.symm; subst e9; subst e8; (try dsimp only); (try k_fold))))
  have hrow9 := hrow
  obtain ⟨hD, hX, hC, hCd, hR, hRd, hRs, hLen⟩ := id D
  obtain ⟨x1, y1, x2, y2, x3, y3, y4, hX⟩ := hX
  obtain ⟨th, hreuse9⟩ := id hreuse
  cases row with
  | none =>
    have hv : (valueAt kvs k).isSome = false := by have h : valueAt kvs k = none := hrow9; rw [h]; rfl
    (unfold CtrL Ctr; k_fill; intro dp un gd cn cs a ccd cl outer A₀ base h₀ L m s0 Q E B F X N T hk hd hu hret; refine wpAny_call ?_; k_dflt ktr_enter)
    k_steps
    all_goals (refine hret _ news _ _ (by k_asm) ?_ ⟨rfl, rfl⟩; (first | assumption | (refine cb_drop (by assumption) ?_; intro q9 hq9; simp only [List.mem_cons, hq9, or_true])))
  | some q =>
    obtain ⟨t, t1, t2, hv0, hT⟩ := hrow9
    have hv : (valueAt kvs k).isSome = true := by rw [hv0]; rfl
    (unfold CtrL Ctr; k_fill; intro dp un gd cn cs a ccd cl outer A₀ base h₀ L m s0 Q E B F X N T hk hd hu hret; refine wpAny_call ?_; k_dflt ktr_enter)
    k_steps
    all_goals (refine hret _ news _ _ (by k_asm) ?_ ⟨rfl, ?_⟩; (first | assumption | (refine cb_drop (by assumption) ?_; intro q9 hq9; simp only [List.mem_cons, hq9, or_true])); (simp_all [outR]))
theorem law_draw_c {w : World} {mean : ExcName → Option Value} {mg mb : Str → Option Value} {news : Led} {g : Obj → Led} {b l : Addr} {vs : List Value} {ns : List Int} {n1 n2 : Nat} (spot many : Int) (ts tm : Tok)
    (U : UpdF b (listOf [Value.ref l, Value.int spot ts].toArray n1) news g) (hl : (l, listOf vs.toArray n2) ∈ news) (hne : l ≠ b) (hi : IntsAre vs ns) (hlen : ns.length ≤ 100) (hs : 0 ≤ spot ∧ spot < 1000) (hm : 1 ≤ many ∧ many ≤ 100) :
    CtrL w mean mg mb 165 1 8 news [.ref b, .int many tm] (fun r news' => ∃ v t t' n', r = .int v t ∧ 0 ≤ v ∧ v < many ∧ news' = g (listOf [Value.ref l, Value.int (spot + 1) t'].toArray n')) := by
  (k_with_none; (k_with "my updF" => (first | assumption | exact UpdF.tail (my_ne (by assumption) (by assumption)) (by assumption))); (k_with "my upd" => (exact updF_upd (by assumption) _)); (k_with "my mem" => (first | exact updF_new (by assumption) _ | exact updF_old (by assumption) (by assumption) (by assumption) | (refine List.mem_cons_of_mem _ ?_; k_mem) | (refine List.mem_append_right _ ?_; k_mem))); (k_with "my islist" => (exact News.isList (by k_asm) (by k_mem))); (k_with "my fact" => (first | assumption | trivial | omega | (refine ⟨?_, ?_⟩ <;> omega) | ((try dsimp only); first | assumption | omega | l_fact))); (k_with "compareOp NotIn int ref" => ((k_here; k_dflt (refine my_notin (by k_asm) (by k_mem) (by k_asm) (by k_asm) _ (by assumption) ?_); (try dsimp only [Bool.not_true, Bool.not_false])))); (k_with "compareOp In int ref" => ((k_here; k_dflt (refine my_in (by k_asm) (by k_mem) (by k_asm) (by k_asm) _ (by assumption) ?_); (try dsimp only)))); (k_with "subscriptTail" => ((k_here; k_dflt (first
  | ((with_reducible show wpAny _ _ (subscriptTail _ _ (Value.ref _) (Value.str _ _)) _ _ _); refine kda_item (knd := PySem.strKind _ _) (by k_asm) (by k_mem) (by k_asm) (strKind_is _ _ _ _) (by assumption) ?_; (try dsimp only))
  | ((with_reducible show wpAny _ _ (subscriptTail _ _ (Value.ref _) (Value.int _ _)) _ _ _); refine kda_item (knd := PySem.intKind _ _) (by k_asm) (by k_mem) (by k_asm) (intKind_is _ _ _ _) (by assumption) ?_; (try dsimp only)))))); (k_with "call builtin:min" => ((k_here; (with_reducible show wpAny _ _ (call (Value.builtin _) [Value.int _ _, Value.int _ _, Value.int _ _]) _ _ _); (with_unfolding_all refine my_min3 (by with_unfolding_all rfl) (by k_asm) (by k_asm) ?_); k_whole); intro v9 t9 h9 tk9 c9 F9 N9; (have d9 := c9 (by omega)); clear c9; (try dsimp only))); (k_with "setItem ref int" => ((k_here; (with_reducible show wpAny _ _ (setItem (Value.ref _) (Value.int _ _) (Value.ref _)) _ _ _); k_dflt (refine kda_set (knd := PySem.intKind _ _) (by k_asm) (by k_asm) (by k_updF) (by k_asm) (intKind_is _ _ _ _) (by rw [sizeLine_eq]; omega) ?_)); intro h9 o9 F9 N9 hd9; (try dsimp only at N9); (try dsimp only))); (k_with "my sub" => (intro p9 hp9; repeat (first | exact hp9 | assumption | refine List.mem_cons_of_mem _ ?_ | refine List.mem_append_right _ ?_))))
  have hb := updF_mem U
  (unfold CtrL Ctr; k_fill; intro dp un gd cn cs a ccd cl outer A₀ base h₀ L m s0 Q E B F X N T hk hd hu hret; refine wpAny_call ?_; k_dflt ktr_enter)
  k_steps
  all_goals exact hret _ _ _ _ (by k_asm) (by k_asm) ⟨_, _, _, _, rfl, (fmod_bounds hm.1).1, (fmod_bounds hm.1).2, rfl⟩
def gpen (reuse most half : Int) : Int := (reuse * (2 * half * 2 ^ (most.fdiv half).toNat)).fdiv (2 * half - most.fmod half)
theorem greatest_penalty_c {w : World} {mean : ExcName → Option Value} {mg mb : Str → Option Value} {news : Led} (reuse most half : Int) (tp ts th : Tok)
    (hr : 0 ≤ reuse ∧ reuse < 1000) (hm : 0 ≤ most ∧ most < 100) (hh : 2 ≤ half ∧ half ≤ 5) :
    CtrL w mean mg mb 74 1 8 news [.int reuse tp, .int most ts, .int half th] (fun r news' => news' = news ∧ ∃ t, r = .int (gpen reuse most half) t) := by
  (k_with_none; (k_with "my updF" => (first | assumption | exact UpdF.tail (my_ne (by assumption) (by assumption)) (by assumption))); (k_with "my upd" => (exact updF_upd (by assumption) _)); (k_with "my mem" => (first | exact updF_new (by assumption) _ | exact updF_old (by assumption) (by assumption) (by assumption) | (refine List.mem_cons_of_mem _ ?_; k_mem) | (refine List.mem_append_right _ ?_; k_mem))); (k_with "my islist" => (exact News.isList (by k_asm) (by k_mem))); (k_with "my fact" => (first | assumption | trivial | omega | (refine ⟨?_, ?_⟩ <;> omega) | ((try dsimp only); first | assumption | omega | l_fact))); (k_with "compareOp NotIn int ref" => ((k_here; k_dflt (refine my_notin (by k_asm) (by k_mem) (by k_asm) (by k_asm) _ (by assumption) ?_); (try dsimp only [Bool.not_true, Bool.not_false])))); (k_with "compareOp In int ref" => ((k_here; k_dflt (refine my_in (by k_asm) (by k_mem) (by k_asm) (by k_asm) _ (by assumption) ?_); (try dsimp only)))); (k_with "subscriptTail" => ((k_here; k_dflt (first
  | ((with_reducible show wpAny _ _ (subscriptTail _ _ (Value.ref _) (Value.str _ _)) _ _ _); refine kda_item (knd := PySem.strKind _ _) (by k_asm) (by k_mem) (by k_asm) (strKind_is _ _ _ _) (by assumption) ?_; (try dsimp only))
  | ((with_reducible show wpAny _ _ (subscriptTail _ _ (Value.ref _) (Value.int _ _)) _ _ _); refine kda_item (knd := PySem.intKind _ _) (by k_asm) (by k_mem) (by k_asm) (intKind_is _ _ _ _) (by assumption) ?_; (try dsimp only)))))); (k_with "call builtin:min" => ((k_here; (with_reducible show wpAny _ _ (call (Value.builtin _) [Value.int _ _, Value.int _ _, Value.int _ _]) _ _ _); (with_unfolding_all refine my_min3 (by with_unfolding_all rfl) (by k_asm) (by k_asm) ?_); k_whole); intro v9 t9 h9 tk9 c9 F9 N9; (have d9 := c9 (by omega)); clear c9; (try dsimp only))); (k_with "setItem ref int" => ((k_here; (with_reducible show wpAny _ _ (setItem (Value.ref _) (Value.int _ _) (Value.ref _)) _ _ _); k_dflt (refine kda_set (knd := PySem.intKind _ _) (by k_asm) (by k_asm) (by k_updF) (by k_asm) (intKind_is _ _ _ _) (by rw [sizeLine_eq]; omega) ?_)); intro h9 o9 F9 N9 hd9; (try dsimp only at N9); (try dsimp only))); (k_with "my sub" => (intro p9 hp9; repeat (first | exact hp9 | assumption | refine List.mem_cons_of_mem _ ?_ | refine List.mem_append_right _ ?_))))
  have h1 : 0 ≤ most.fdiv half := fdiv_nn hm.1 (by omega)
  have h2 : most.fdiv half < 50 := by
    rw [Int.fdiv_eq_ediv_of_nonneg _ (by omega)]
    exact Int.ediv_lt_of_lt_mul (by omega) (by omega)
  have h3 := fmod_bounds (a := most) (b := half) (by omega)
  (unfold CtrL Ctr; k_fill; intro dp un gd cn cs a ccd cl outer A₀ base h₀ L m s0 Q E B F X N T hk hd hu hret; refine wpAny_call ?_; k_dflt ktr_enter)
  k_steps
  all_goals (refine hret _ news _ _ (by k_asm) ?_ ⟨rfl, _, rfl⟩; (first | assumption | (refine cb_drop (by assumption) ?_; intro q9 hq9; simp only [List.mem_cons, hq9, or_true])))
structure Cfg where
  half : Int
  most : Int
  reuse : Int
  suppress : Int
  wd : Int
  ch : Int
  ag : Int
structure CfgAt (kc : List (Str × Value)) (C : Cfg) : Prop where
  half : CfgIs kc (Str.ofString "half") C.half
  most : CfgIs kc (Str.ofString "most") C.most
  reuse : CfgIs kc (Str.ofString "reuse") C.reuse
  suppress : CfgIs kc (Str.ofString "suppress") C.suppress
  wd : CfgIs kc (Str.ofString "withdrawn") C.wd
  ch : CfgIs kc (Str.ofString "changed") C.ch
  ag : CfgIs kc (Str.ofString "again") C.ag
structure CfgOk (C : Cfg) : Prop where
  half : 2 ≤ C.half ∧ C.half ≤ 5
  most : 0 ≤ C.most ∧ C.most < 100
  reuse : 100 ≤ C.reuse ∧ C.reuse ≤ 200
  suppress : C.reuse < C.suppress ∧ C.suppress < 1000
  wd : 1 ≤ C.wd ∧ C.wd ≤ 300
  ch : 1 ≤ C.ch ∧ C.ch ≤ 300
  ag : 1 ≤ C.ag ∧ C.ag ≤ 300
theorem check_damping_c {w : World} {mean : ExcName → Option Value} {mg mb : Str → Option Value} {news : Led} {c : Addr} {oc : Obj} {kc : List (Str × Value)} (C : Cfg)
    (hc : (c, oc) ∈ news) (hcd : oc.IsDictOf (PySem.strKind PySem.Challenge.rw_sj0173_02.row.prog w) kc) (ha : CfgAt kc C) (hok : CfgOk C) :
    CtrL w mean mg mb 60 1 8 news [.ref c] (fun r news' => news' = news ∧ r = .none) := by
  (k_with_none; (k_with "my updF" => (first | assumption | exact UpdF.tail (my_ne (by assumption) (by assumption)) (by assumption))); (k_with "my upd" => (exact updF_upd (by assumption) _)); (k_with "my mem" => (first | exact updF_new (by assumption) _ | exact updF_old (by assumption) (by assumption) (by assumption) | (refine List.mem_cons_of_mem _ ?_; k_mem) | (refine List.mem_append_right _ ?_; k_mem))); (k_with "my islist" => (exact News.isList (by k_asm) (by k_mem))); (k_with "my fact" => (first | assumption | trivial | omega | (refine ⟨?_, ?_⟩ <;> omega) | ((try dsimp only); first | assumption | omega | l_fact))); (k_with "compareOp NotIn int ref" => ((k_here; k_dflt (refine my_notin (by k_asm) (by k_mem) (by k_asm) (by k_asm) _ (by assumption) ?_); (try dsimp only [Bool.not_true, Bool.not_false])))); (k_with "compareOp In int ref" => ((k_here; k_dflt (refine my_in (by k_asm) (by k_mem) (by k_asm) (by k_asm) _ (by assumption) ?_); (try dsimp only)))); (k_with "subscriptTail" => ((k_here; k_dflt (first
  | ((with_reducible show wpAny _ _ (subscriptTail _ _ (Value.ref _) (Value.str _ _)) _ _ _); refine kda_item (knd := PySem.strKind _ _) (by k_asm) (by k_mem) (by k_asm) (strKind_is _ _ _ _) (by assumption) ?_; (try dsimp only))
  | ((with_reducible show wpAny _ _ (subscriptTail _ _ (Value.ref _) (Value.int _ _)) _ _ _); refine kda_item (knd := PySem.intKind _ _) (by k_asm) (by k_mem) (by k_asm) (intKind_is _ _ _ _) (by assumption) ?_; (try dsimp only)))))); (k_with "call builtin:min" => ((k_here; (with_reducible show wpAny _ _ (call (Value.builtin _) [Value.int _ _, Value.int _ _, Value.int _ _]) _ _ _); (with_unfolding_all refine my_min3 (by with_unfolding_all rfl) (by k_asm) (by k_asm) ?_); k_whole); intro v9 t9 h9 tk9 c9 F9 N9; (have d9 := c9 (by omega)); clear c9; (try dsimp only))); (k_with "setItem ref int" => ((k_here; (with_reducible show wpAny _ _ (setItem (Value.ref _) (Value.int _ _) (Value.ref _)) _ _ _); k_dflt (refine kda_set (knd := PySem.intKind _ _) (by k_asm) (by k_asm) (by k_updF) (by k_asm) (intKind_is _ _ _ _) (by rw [sizeLine_eq]; omega) ?_)); intro h9 o9 F9 N9 hd9; (try dsimp only at N9); (try dsimp only))); (k_with "my sub" => (intro p9 hp9; repeat (first | exact hp9 | assumption | refine List.mem_cons_of_mem _ ?_ | refine List.mem_append_right _ ?_))))
  obtain ⟨⟨t1, v1⟩, ⟨t2, v2⟩, ⟨t3, v3⟩, ⟨t4, v4⟩, ⟨t5, v5⟩, ⟨t6, v6⟩, ⟨t7, v7⟩⟩ := ha
  obtain ⟨o1, o2, o3, o4, o5, o6, o7⟩ := hok
  (unfold CtrL Ctr; k_fill; intro dp un gd cn cs a ccd cl outer A₀ base h₀ L m s0 Q E B F X N T hk hd hu hret; refine wpAny_call ?_; k_dflt ktr_enter)
  k_steps
  all_goals (refine hret _ news _ _ (by k_asm) ?_ ⟨rfl, rfl⟩; (first | assumption | (refine cb_drop (by assumption) ?_; intro q9 hq9; simp only [List.mem_cons, hq9, or_true])))
def fineOf (C : Cfg) (x : Str) : Option Int := if x = Str.ofString "withdrawn" then some C.wd else if x = Str.ofString "changed" then some C.ch else if x = Str.ofString "again" then some C.ag else none
def finR (C : Cfg) (top add : Int) (row : Option Row) (now : Int) : Row :=
  let fine := min top (penR C.half row now + add)
  { fine := fine, since := now, out := (outR C.half C.reuse row now && decide (C.reuse < fine)) || decide (C.suppress ≤ fine) }
theorem fined_c {w : World} {mean : ExcName → Option Value} {mg mb : Str → Option Value} {news : Led} {g : Obj → Led} {d dx c r : Addr} {oc orr : Obj} {kc : List (Str × Value)} {kvs : List (Int × Value)} {top : Int} (k now add : Int) (word : Str) (C : Cfg) (row : Option Row) (tk tw tn : Tok)
    (D : DmpAt w news d dx c r oc orr kc kvs top) (U : UpdF r orr news g) (hrow : RowAt news kvs k row) (hok : RowOk now row) (ha : CfgAt kc C) (hC : CfgOk C) (hadd : CfgIs kc word add) (hadd2 : 0 ≤ add ∧ add ≤ 300) (htop : 0 ≤ top) :
    CtrL w mean mg mb 109 4 32 news [.ref d, .int k tk, .str word tw, .int now tn] (fun res news' => ∃ t t1 t2 o', news' = (t, tupO [.int (finR C top add row now).fine t1, .int now t2, .bool (finR C top add row now).out]) :: g o' ∧ o'.IsDictOf (PySem.intKind PySem.Challenge.rw_sj0173_02.row.prog w) (stored kvs k (.ref t)) ∧ (∀ p ∈ g o', p.1 < t) ∧ res = .bool (finR C top add row now).out) := by
  (k_with_none; (k_with "my updF" => (first | assumption | exact UpdF.tail (my_ne (by assumption) (by assumption)) (by assumption))); (k_with "my upd" => (exact updF_upd (by assumption) _)); (k_with "my mem" => (first | exact updF_new (by assumption) _ | exact updF_old (by assumption) (by assumption) (by assumption) | (refine List.mem_cons_of_mem _ ?_; k_mem) | (refine List.mem_append_right _ ?_; k_mem))); (k_with "my islist" => (exact News.isList (by k_asm) (by k_mem))); (k_with "my fact" => (first | assumption | trivial | omega | (refine ⟨?_, ?_⟩ <;> omega) | ((try dsimp only); first | assumption | omega | l_fact))); (k_with "compareOp NotIn int ref" => ((k_here; k_dflt (refine my_notin (by k_asm) (by k_mem) (by k_asm) (by k_asm) _ (by assumption) ?_); (try dsimp only [Bool.not_true, Bool.not_false])))); (k_with "compareOp In int ref" => ((k_here; k_dflt (refine my_in (by k_asm) (by k_mem) (by k_asm) (by k_asm) _ (by assumption) ?_); (try dsimp only)))); (k_with "subscriptTail" => ((k_here; k_dflt (first
  | ((with_reducible show wpAny _ _ (subscriptTail _ _ (Value.ref _) (Value.str _ _)) _ _ _); refine kda_item (knd := PySem.strKind _ _) (by k_asm) (by k_mem) (by k_asm) (strKind_is _ _ _ _) (by assumption) ?_; (try dsimp only))
  | ((with_reducible show wpAny _ _ (subscriptTail _ _ (Value.ref _) (Value.int _ _)) _ _ _); refine kda_item (knd := PySem.intKind _ _) (by k_asm) (by k_mem) (by k_asm) (intKind_is _ _ _ _) (by assumption) ?_; (try dsimp only)))))); (k_with "call builtin:min" => ((k_here; (with_reducible show wpAny _ _ (call (Value.builtin _) [Value.int _ _, Value.int _ _, Value.int _ _]) _ _ _); (with_unfolding_all refine my_min3 (by with_unfolding_all rfl) (by k_asm) (by k_asm) ?_); k_whole); intro v9 t9 h9 tk9 c9 F9 N9; (have d9 := c9 (by omega)); clear c9; (try dsimp only))); (k_with "setItem ref int" => ((k_here; (with_reducible show wpAny _ _ (setItem (Value.ref _) (Value.int _ _) (Value.ref _)) _ _ _); k_dflt (refine kda_set (knd := PySem.intKind _ _) (by k_asm) (by k_asm) (by k_updF) (by k_asm) (intKind_is _ _ _ _) (by rw [sizeLine_eq]; omega) ?_)); intro h9 o9 F9 N9 hd9; (try dsimp only at N9); (try dsimp only))); (k_with "my sub" => (intro p9 hp9; repeat (first | exact hp9 | assumption | refine List.mem_cons_of_mem _ ?_ | refine List.mem_append_right _ ?_))); (k_with "call ref" => ((k_here; (with_reducible show wpAny _ _ (call (Value.ref 67) _) _ _ _); k_dflt (refine Ctr.use9 (by k_asm) (by k_asm) (by k_asm) (by k_asm) (by k_asm) (by first | exact rfl | assumption) (by ktr_room) (by first | ktr_units | exact Nat.le_of_ble_eq_true rfl) (decayed_c _ _ _ _ _ _ (by walk_at "my fact") (by walk_at "my fact") (by walk_at "my fact")) ?_); k_whole); intro r9 n9 h9 tk9 F9 N9 P9; obtain ⟨e9, t9, e8⟩ := P9; replace e9 := e9.symm; subst e9; subst e8; (try dsimp only); (try k_fold))); (k_with "call ref" => ((k_here; (with_reducible show wpAny _ _ (call (Value.ref 102) _) _ _ _); k_dflt (refine Ctr.use9 (by k_asm) (by k_asm) (by k_asm) (by k_asm) (by k_asm) (by first | exact rfl | assumption) (by ktr_room) (by first | ktr_units | exact Nat.le_of_ble_eq_true rfl) (penalty_c _ _ _ _ _ _ (by first | assumption | exact DmpAt.mono (by assumption) (by walk_at "my sub")) (by assumption) (by assumption) (by first | assumption | exact RowAt.mono (by assumption) (by walk_at "my sub")) (by assumption)) ?_); k_whole); intro r9 n9 h9 tk9 F9 N9 P9; obtain ⟨e9, t9, e8⟩ := P9; replace e9 := e9.symm; subst e9; subst e8; (try dsimp only); (try k_fold))); (k_with "call ref" => ((k_here; (with_reducible show wpAny _ _ (call (Value.ref 116) _) _ _ _); k_dflt (refine Ctr.use9 (by k_asm) (by k_asm) (by k_asm) (by k_asm) (by k_asm) (by first | exact rfl | assumption) (by ktr_room) (by first | ktr_units | exact Nat.le_of_ble_eq_true rfl) (is_left_out_c _ _ _ _ _ _ _ (by first | assumption | exact DmpAt.mono (by assumption) (by walk_at "my sub")) (by assumption) (by assumption) (by assumption) (by first | assumption | exact RowAt.mono (by assumption) (by walk_at "my sub")) (by assumption)) ?_); k_whole); intro r9 n9 h9 tk9 F9 N9 P9; obtain ⟨e9, e8⟩ := P9; replace e9 := e9.symm; subst e9; subst e8; (try dsimp only); (try k_fold))))
  have D9 := D
  obtain ⟨hD, hX, hC', hCd, hR, hRd, hRs, hLen⟩ := D9
  obtain ⟨x1, y1, x2, y2, x3, y3, y4, hX⟩ := hX
  have a1 := ha.half
  have a3 := ha.reuse
  obtain ⟨th3, b3⟩ := ha.reuse
  obtain ⟨th4, b4⟩ := ha.suppress
  obtain ⟨th5, b5⟩ := id hadd
  have o1 : 1 ≤ C.half ∧ C.half ≤ 5 := ⟨by have := hC.half; omega, hC.half.2⟩
  have hmin : (if penR C.half row now + add < top then penR C.half row now + add else top) = min top (penR C.half row now + add) := by split <;> omega
  (unfold CtrL Ctr; k_fill; intro dp un gd cn cs a ccd cl outer A₀ base h₀ L m s0 Q E B F X N T hk hd hu hret; refine wpAny_call ?_; k_dflt ktr_enter)
  k_steps
  all_goals (refine hret _ _ _ _ (by k_asm) (by k_asm) ⟨_, _, _, _, tup_eq ?_ ?_, by assumption, ?_, ?_⟩)
  all_goals (try (intro p hp; obtain ⟨y, hy, ey⟩ := updF_addr U hp; rw [← ey]; exact (by assumption : ∀ p ∈ news, p.1 < _) y hy))
  all_goals (try simp only [hmin] at *)
  all_goals first | (simp_all [finR]; done) | (simp_all [finR]; intros; omega)
theorem seconds_until_c {w : World} {mean : ExcName → Option Value} {mg mb : Str → Option Value} {news : Led} (p goal h : Int) (tp ts th : Tok)
    (hp : 0 ≤ p ∧ p < 1000000) (hg : 1 ≤ goal ∧ goal < 1000000) (hh : 1 ≤ h ∧ h ≤ 5) :
    CtrL w mean mg mb 81 2 16 news [.int p tp, .int goal ts, .int h th] (fun r news' => news' = news ∧ ∃ v t, r = .int v t ∧ Least p goal h v) := by
  (k_with_none; (k_with "my updF" => (first | assumption | exact UpdF.tail (my_ne (by assumption) (by assumption)) (by assumption))); (k_with "my upd" => (exact updF_upd (by assumption) _)); (k_with "my mem" => (first | exact updF_new (by assumption) _ | exact updF_old (by assumption) (by assumption) (by assumption) | (refine List.mem_cons_of_mem _ ?_; k_mem) | (refine List.mem_append_right _ ?_; k_mem))); (k_with "my islist" => (exact News.isList (by k_asm) (by k_mem))); (k_with "my fact" => (first | assumption | trivial | omega | (refine ⟨?_, ?_⟩ <;> omega) | ((try dsimp only); first | assumption | omega | l_fact))); (k_with "compareOp NotIn int ref" => ((k_here; k_dflt (refine my_notin (by k_asm) (by k_mem) (by k_asm) (by k_asm) _ (by assumption) ?_); (try dsimp only [Bool.not_true, Bool.not_false])))); (k_with "compareOp In int ref" => ((k_here; k_dflt (refine my_in (by k_asm) (by k_mem) (by k_asm) (by k_asm) _ (by assumption) ?_); (try dsimp only)))); (k_with "subscriptTail" => ((k_here; k_dflt (first
  | ((with_reducible show wpAny _ _ (subscriptTail _ _ (Value.ref _) (Value.str _ _)) _ _ _); refine kda_item (knd := PySem.strKind _ _) (by k_asm) (by k_mem) (by k_asm) (strKind_is _ _ _ _) (by assumption) ?_; (try dsimp only))
  | ((with_reducible show wpAny _ _ (subscriptTail _ _ (Value.ref _) (Value.int _ _)) _ _ _); refine kda_item (knd := PySem.intKind _ _) (by k_asm) (by k_mem) (by k_asm) (intKind_is _ _ _ _) (by assumption) ?_; (try dsimp only)))))); (k_with "call builtin:min" => ((k_here; (with_reducible show wpAny _ _ (call (Value.builtin _) [Value.int _ _, Value.int _ _, Value.int _ _]) _ _ _); (with_unfolding_all refine my_min3 (by with_unfolding_all rfl) (by k_asm) (by k_asm) ?_); k_whole); intro v9 t9 h9 tk9 c9 F9 N9; (have d9 := c9 (by omega)); clear c9; (try dsimp only))); (k_with "setItem ref int" => ((k_here; (with_reducible show wpAny _ _ (setItem (Value.ref _) (Value.int _ _) (Value.ref _)) _ _ _); k_dflt (refine kda_set (knd := PySem.intKind _ _) (by k_asm) (by k_asm) (by k_updF) (by k_asm) (intKind_is _ _ _ _) (by rw [sizeLine_eq]; omega) ?_)); intro h9 o9 F9 N9 hd9; (try dsimp only at N9); (try dsimp only))); (k_with "my sub" => (intro p9 hp9; repeat (first | exact hp9 | assumption | refine List.mem_cons_of_mem _ ?_ | refine List.mem_append_right _ ?_))); (k_with "call ref" => ((k_here; (with_reducible show wpAny _ _ (call (Value.ref 67) _) _ _ _); k_dflt (refine Ctr.use9 (by k_asm) (by k_asm) (by k_asm) (by k_asm) (by k_asm) (by first | exact rfl | assumption) (by ktr_room) (by first | ktr_units | exact Nat.le_of_ble_eq_true rfl) (decayed_c _ _ _ _ _ _ (by walk_at "my fact") (by walk_at "my fact") (by walk_at "my fact")) ?_); k_whole); intro r9 n9 h9 tk9 F9 N9 P9; obtain ⟨e9, t9, e8⟩ := P9; replace e9 := e9.symm; subst e9; subst e8; (try dsimp only); (try k_fold))); (k_with "exec While Compare cons nil" => (refine Stop.mk ?_)))
  have loop : ∀ n : Int, 0 ≤ n ∧ goal < dec p (n * h) h → n < 20 := fun n k => dec_half hh.1 hp.1 hp.2 hg.1 k.2
  (unfold CtrL Ctr; k_fill; intro dp un gd cn cs a ccd cl outer A₀ base h₀ L m s0 Q E B F X N T hk hd hu hret; refine wpAny_call ?_; k_dflt ktr_enter)
  k_steps
  rotate_left
  refine Stop.go ?_
  (rename Fr _ _ _ _ => lF)
  (rename News _ _ _ _ => lN)
  refine ksw_while (σ := Int × Tok) (fun _ => news) (fun c => [(Str.ofString "times", .int c.1 c.2)]) (fun _ => True) [] (fun c => 0 ≤ c.1 ∧ c.1 < 20 ∧ goal < dec p (c.1 * h) h) (fun c => (30 - c.1).toNat) (0, _) lF lN trivial (fun q hq => by rw [List.mem_singleton.mp hq]; exact rfl) ⟨Int.le_refl 0, by show (0 : Int) < 20; decide, by show goal < dec p (0 * h) h; rw [Int.zero_mul, dec_zero hh.1]; omega⟩ ?_
  clear lF lN
  rintro ⟨n, tn⟩ u h1 tk1 _ ⟨n0, n20, nd⟩ F1 N1
  have m1 : 0 ≤ (n + 1) * h := Int.mul_nonneg (by omega) (by omega)
  have m2 : (n + 1) * h ≤ 20 * 5 := Int.le_trans (Int.mul_le_mul_of_nonneg_right (show n + 1 ≤ 20 by omega) (by omega)) (by omega)
  dsimp only at n0 n20 nd
  (try dsimp only)
  (try k_fold)
  k_steps
  · refine ksw_end (n + 1, _) (by assumption) (by assumption) (fun _ h => h) trivial (fun q hq => by rw [List.mem_singleton.mp hq]; exact rfl) (fun z h2 _ => by have h4 : z ≠ Str.ofString "times" := h2 _ (List.mem_singleton.mpr rfl); simp only [kstB, if_neg h4]; rfl) ⟨by show 0 ≤ n + 1; omega, loop (n + 1) ⟨by omega, by assumption⟩, by assumption⟩ (by show (30 - (n + 1)).toNat < (30 - n).toNat; omega)
  · refine hret _ news _ _ (by k_asm) ?_ ⟨rfl, _, _, rfl, least_of (by omega) hp.2 hg.1 hh.1 hh.2 n0 nd (by assumption) rfl⟩; (first | assumption | (refine cb_drop (by assumption) ?_; intro q9 hq9; simp only [List.mem_cons, hq9, or_true]))
  · refine hret _ news _ _ (by k_asm) ?_ ⟨rfl, _, _, rfl, least_zero hh.1 (by assumption)⟩; (first | assumption | (refine cb_drop (by assumption) ?_; intro q9 hq9; simp only [List.mem_cons, hq9, or_true]))
theorem reuse_time_c {w : World} {mean : ExcName → Option Value} {mg mb : Str → Option Value} {news : Led} {d dx c r : Addr} {oc orr : Obj} {kc : List (Str × Value)} {kvs : List (Int × Value)} {top : Int} (k now : Int) (C : Cfg) (row : Option Row) (tk tn : Tok)
    (D : DmpAt w news d dx c r oc orr kc kvs top) (hrow : RowAt news kvs k row) (hok : RowOk now row) (ha : CfgAt kc C) (hC : CfgOk C) :
    CtrL w mean mg mb 123 4 32 news [.ref d, .int k tk, .int now tn] (fun res news' => news' = news ∧ ((outR C.half C.reuse row now = false ∧ res = .none) ∨ (outR C.half C.reuse row now = true ∧ ∃ q v t, row = some q ∧ Least q.fine C.reuse C.half v ∧ res = .int (q.since + v) t))) := by
  (k_with_none; (k_with "my updF" => (first | assumption | exact UpdF.tail (my_ne (by assumption) (by assumption)) (by assumption))); (k_with "my upd" => (exact updF_upd (by assumption) _)); (k_with "my mem" => (first | exact updF_new (by assumption) _ | exact updF_old (by assumption) (by assumption) (by assumption) | (refine List.mem_cons_of_mem _ ?_; k_mem) | (refine List.mem_append_right _ ?_; k_mem))); (k_with "my islist" => (exact News.isList (by k_asm) (by k_mem))); (k_with "my fact" => (first | assumption | trivial | omega | (refine ⟨?_, ?_⟩ <;> omega) | ((try dsimp only); first | assumption | omega | l_fact))); (k_with "compareOp NotIn int ref" => ((k_here; k_dflt (refine my_notin (by k_asm) (by k_mem) (by k_asm) (by k_asm) _ (by assumption) ?_); (try dsimp only [Bool.not_true, Bool.not_false])))); (k_with "compareOp In int ref" => ((k_here; k_dflt (refine my_in (by k_asm) (by k_mem) (by k_asm) (by k_asm) _ (by assumption) ?_); (try dsimp only)))); (k_with "subscriptTail" => ((k_here; k_dflt (first
  | ((with_reducible show wpAny _ _ (subscriptTail _ _ (Value.ref _) (Value.str _ _)) _ _ _); refine kda_item (knd := PySem.strKind _ _) (by k_asm) (by k_mem) (by k_asm) (strKind_is _ _ _ _) (by assumption) ?_; (try dsimp only))
  | ((with_reducible show wpAny _ _ (subscriptTail _ _ (Value.ref _) (Value.int _ _)) _ _ _); refine kda_item (knd := PySem.intKind _ _) (by k_asm) (by k_mem) (by k_asm) (intKind_is _ _ _ _) (by assumption) ?_; (try dsimp only)))))); (k_with "call builtin:min" => ((k_here; (with_reducible show wpAny _ _ (call (Value.builtin _) [Value.int _ _, Value.int _ _, Value.int _ _]) _ _ _); (with_unfolding_all refine my_min3 (by with_unfolding_all rfl) (by k_asm) (by k_asm) ?_); k_whole); intro v9 t9 h9 tk9 c9 F9 N9; (have d9 := c9 (by omega)); clear c9; (try dsimp only))); (k_with "setItem ref int" => ((k_here; (with_reducible show wpAny _ _ (setItem (Value.ref _) (Value.int _ _) (Value.ref _)) _ _ _); k_dflt (refine kda_set (knd := PySem.intKind _ _) (by k_asm) (by k_asm) (by k_updF) (by k_asm) (intKind_is _ _ _ _) (by rw [sizeLine_eq]; omega) ?_)); intro h9 o9 F9 N9 hd9; (try dsimp only at N9); (try dsimp only))); (k_with "my sub" => (intro p9 hp9; repeat (first | exact hp9 | assumption | refine List.mem_cons_of_mem _ ?_ | refine List.mem_append_right _ ?_))); (k_with "call ref" => ((k_here; (with_reducible show wpAny _ _ (call (Value.ref 67) _) _ _ _); k_dflt (refine Ctr.use9 (by k_asm) (by k_asm) (by k_asm) (by k_asm) (by k_asm) (by first | exact rfl | assumption) (by ktr_room) (by first | ktr_units | exact Nat.le_of_ble_eq_true rfl) (decayed_c _ _ _ _ _ _ (by walk_at "my fact") (by walk_at "my fact") (by walk_at "my fact")) ?_); k_whole); intro r9 n9 h9 tk9 F9 N9 P9; obtain ⟨e9, t9, e8⟩ := P9; replace e9 := e9.symm; subst e9; subst e8; (try dsimp only); (try k_fold))); (k_with "call ref" => ((k_here; (with_reducible show wpAny _ _ (call (Value.ref 102) _) _ _ _); k_dflt (refine Ctr.use9 (by k_asm) (by k_asm) (by k_asm) (by k_asm) (by k_asm) (by first | exact rfl | assumption) (by ktr_room) (by first | ktr_units | exact Nat.le_of_ble_eq_true rfl) (penalty_c _ _ _ _ _ _ (by first | assumption | exact DmpAt.mono (by assumption) (by walk_at "my sub")) (by assumption) (by assumption) (by first | assumption | exact RowAt.mono (by assumption) (by walk_at "my sub")) (by assumption)) ?_); k_whole); intro r9 n9 h9 tk9 F9 N9 P9; obtain ⟨e9, t9, e8⟩ := P9; replace e9 := e9.symm; subst e9; subst e8; (try dsimp only); (try k_fold))); (k_with "call ref" => ((k_here; (with_reducible show wpAny _ _ (call (Value.ref 116) _) _ _ _); k_dflt (refine Ctr.use9 (by k_asm) (by k_asm) (by k_asm) (by k_asm) (by k_asm) (by first | exact rfl | assumption) (by ktr_room) (by first | ktr_units | exact Nat.le_of_ble_eq_true rfl) (is_left_out_c _ _ _ _ _ _ _ (by first | assumption | exact DmpAt.mono (by assumption) (by walk_at "my sub")) (by assumption) (by assumption) (by assumption) (by first | assumption | exact RowAt.mono (by assumption) (by walk_at "my sub")) (by assumption)) ?_); k_whole); intro r9 n9 h9 tk9 F9 N9 P9; obtain ⟨e9, e8⟩ := P9; replace e9 := e9.symm; subst e9; subst e8; (try dsimp only); (try k_fold))); (k_with "call ref" => ((k_here; (with_reducible show wpAny _ _ (call (Value.ref 81) _) _ _ _); k_dflt (refine Ctr.use9 (by k_asm) (by k_asm) (by k_asm) (by k_asm) (by k_asm) (by first | exact rfl | assumption) (by ktr_room) (by first | ktr_units | exact Nat.le_of_ble_eq_true rfl) (seconds_until_c _ _ _ _ _ _ (by walk_at "my fact") (by walk_at "my fact") (by walk_at "my fact")) ?_); k_whole); intro r9 n9 h9 tk9 F9 N9 P9; obtain ⟨e9, v9, t9, e8, c9⟩ := P9; replace e9 := e9.symm; subst e9; subst e8; (try dsimp only); (try k_fold))))
  have D9 := D
  obtain ⟨hD, hX, hC', hCd, hR, hRd, hRs, hLen⟩ := D9
  obtain ⟨x1, y1, x2, y2, x3, y3, y4, hX⟩ := hX
  have a1 := ha.half
  have a3 := ha.reuse
  obtain ⟨th3, b3⟩ := ha.reuse
  obtain ⟨th4, b4⟩ := ha.half
  have o1 : 1 ≤ C.half ∧ C.half ≤ 5 := ⟨by have := hC.half; omega, hC.half.2⟩
  have o2 := hC.reuse
  cases row with
  | none =>
    have hv : (valueAt kvs k).isSome = false := by have h : valueAt kvs k = none := hrow; rw [h]; rfl
    (unfold CtrL Ctr; k_fill; intro dp un gd cn cs a ccd cl outer A₀ base h₀ L m s0 Q E B F X N T hk hd hu hret; refine wpAny_call ?_; k_dflt ktr_enter)
    k_steps
    all_goals first
      | (refine hret _ news _ _ (by k_asm) ?_ ⟨rfl, .inl ⟨rfl, rfl⟩⟩; (first | assumption | (refine cb_drop (by assumption) ?_; intro q9 hq9; simp only [List.mem_cons, hq9, or_true])))
      | (exfalso; simp_all [outR]; done)
  | some q =>
    have hrow9 := hrow
    obtain ⟨t, t1, t2, hv0, hT⟩ := hrow9
    have hok9 := hok
    obtain ⟨ho1, ho2, ho3, ho4⟩ := hok9
    have hv : (valueAt kvs k).isSome = true := by rw [hv0]; rfl
    (unfold CtrL Ctr; k_fill; intro dp un gd cn cs a ccd cl outer A₀ base h₀ L m s0 Q E B F X N T hk hd hu hret; refine wpAny_call ?_; k_dflt ktr_enter)
    k_steps
    all_goals first
      | (refine hret _ news _ _ (by k_asm) ?_ ⟨rfl, .inl ⟨by simp_all, rfl⟩⟩; (first | assumption | (refine cb_drop (by assumption) ?_; intro q9 hq9; simp only [List.mem_cons, hq9, or_true])))
      | (refine hret _ news _ _ (by k_asm) ?_ ⟨rfl, .inr ⟨by simp_all, q, _, _, rfl, by assumption, rfl⟩⟩; (first | assumption | (refine cb_drop (by assumption) ?_; intro q9 hq9; simp only [List.mem_cons, hq9, or_true])))
section
variable {prog : Program} {w : World} {A : Around} {E : Value → Shared → Prop} {s : Shared} {env : Env} {h₀ : Heap} {x : Str} {body : List Stmt} {Q : Flow → Shared → Prop}
/-- a range by ones, its state any frame and ledger that J tells -/
theorem my_range {r : Addr} {a₀ b₀ : Int} {t₀ u₀ v₀ : Tok} {n : Nat} {m₀ : Str → Option Value} {news nx₀ : Led} (J : Nat → (Str → Option Value) → Led → Prop)
    (hh : A.handled = none) (hr : IsRange s.heap r a₀ b₀ 1 t₀ u₀ v₀) (hsmall : Builtin.Range.small a₀ b₀ 1 = true) (hsz : Builtin.Range.rangeSize a₀ b₀ 1 = (n : Int)) (F : Fr h₀ env.locals s.heap m₀) (N : News h₀ env.locals s.heap news) (hsub : ∀ p ∈ nx₀, p ∈ news) (hj : J 0 m₀ nx₀)
    (turn : ∀ (i : Nat) t m₁ nx h tk own, i < n → OwnOff own (nx.map (·.1)) → J i m₁ nx → Fr h₀ env.locals h (fun y => if y = x then some (.int (a₀ + i) t) else m₁ y) → News h₀ env.locals h (nx ++ own) →
      wpAny (model prog w) A (execs body env) (InvPostG h₀ env.locals (J (i + 1)) own { s with heap := h, toks := tk } Q) E { s with heap := h, toks := tk })
    (done : ∀ m₁ nx h tk, J n m₁ nx → Fr h₀ env.locals h m₁ → News h₀ env.locals h nx → Q .next { s with heap := h, toks := tk }) :
    wpAny (model prog w) A (pyIter (.ref r)) (fun it s₂ => LoopAtV prog w A h₀ env x body Q E it s₂) E s := by
  refine wpAny_pyIter_range hr hsmall ?_
  have hI : h₀.get? s.heap.objs.size = none := next_is_new F
  have hlow : ∀ p ∈ nx₀, p.1 < s.heap.objs.size := fun p hp => Heap.lt_size (N p (hsub p hp)).1
  refine kdr_loop (news := nx₀) J (Walks.range (prog := prog) (w := w) hh s.heap.objs.size a₀ 1 n).bound (fun _ q => q) (fun _ q => q) (fun i h q b hb => ?_) (fun q => ?_) (fun b hb => ?_) (fun p hp q => ?_) ?_ (F.push _) (fun p hp => ?_) hj ?_ done
  · rw [List.mem_singleton.mp hb]; exact ⟨_, q⟩
  · have := F.ns.lt
    rw [List.mem_singleton.mp q] at this
    exact Nat.lt_irrefl _ this
  · rw [List.mem_singleton.mp hb]; exact hI
  · have := hlow p hp
    rw [List.mem_singleton.mp q] at this
    exact Nat.lt_irrefl _ this
  · show IsRangeIter _ _ _ _ _
    rw [hsz]
    simpa using Heap.get?_push_size _ rfl
  · exact ⟨Heap.get?_push_of_some _ (N p (hsub p hp)).1, (N p (hsub p hp)).2⟩
  · rintro i v m₁ nx h tk own hi ⟨_, t, rfl⟩ hoff hJ F₁ N₁
    have e : a₀ + (i : Int) * 1 = a₀ + i := by omega
    rw [e] at F₁
    exact turn i t m₁ nx h tk own hi hoff hJ F₁ N₁
def RoPost (x : Str) (h₀ : Heap) (L : Addr) (m₀ : Str → Option Value) (nw : Led) (s : Shared) (Q : Flow → Shared → Prop) (f : Flow) (s₂ : Shared) : Prop := match f with
  | .ret v => Q (.ret v) s₂
  | .brk => Q .next s₂
  | _ => ∃ h' tk' m', s₂ = { s with heap := h', toks := tk' } ∧ Fr h₀ L h' m' ∧ News h₀ L h' nw ∧ ∀ z, z ≠ x → m' z = m₀ z
/-- a range whose turns store no name but their own and leave the ledger as it was -/
theorem my_range_ro {r : Addr} {a₀ b₀ : Int} {t₀ u₀ v₀ : Tok} {n : Nat} {m₀ : Str → Option Value} {news : Led}
    (hh : A.handled = none) (hr : IsRange s.heap r a₀ b₀ 1 t₀ u₀ v₀) (hsmall : Builtin.Range.small a₀ b₀ 1 = true) (hsz : Builtin.Range.rangeSize a₀ b₀ 1 = (n : Int)) (F : Fr h₀ env.locals s.heap m₀) (N : News h₀ env.locals s.heap news)
    (turn : ∀ (i : Nat) t h tk nw, i < n → (∀ p ∈ news, p ∈ nw) → Fr h₀ env.locals h (fun y => if y = x then some (.int (a₀ + i) t) else m₀ y) → News h₀ env.locals h nw →
      wpAny (model prog w) A (execs body env) (RoPost x h₀ env.locals m₀ nw s Q) E { s with heap := h, toks := tk })
    (done : ∀ (u : Str → Option Value) h tk, Fr h₀ env.locals h (fun y => if y = x then u y else m₀ y) → News h₀ env.locals h news → Q .next { s with heap := h, toks := tk }) :
    wpAny (model prog w) A (pyIter (.ref r)) (fun it s₂ => LoopAtV prog w A h₀ env x body Q E it s₂) E s := by
  refine my_range (nx₀ := news) (fun _ m nx => nx = news ∧ ∀ z, z ≠ x → m z = m₀ z) hh hr hsmall hsz F N (fun _ q => q) ⟨rfl, fun _ _ => rfl⟩ ?_ ?_
  · rintro i t m₁ nx h tk own hi hoff ⟨rfl, hm⟩ F₁ N₁
    have em : (fun y => if y = x then some (Value.int (a₀ + i) t) else m₁ y) = fun y => if y = x then some (Value.int (a₀ + i) t) else m₀ y := by
      funext y
      by_cases q : y = x
      · simp only [if_pos q]
      · simp only [if_neg q]; exact hm y q
    rw [em] at F₁
    refine wpAny_mono (turn i t h tk (nx ++ own) hi (fun p hp => List.mem_append.mpr (.inl hp)) F₁ N₁) (fun f s₂ q => ?_) fun _ _ q => q
    cases f with
    | ret v => exact q
    | brk => exact q
    | next =>
      obtain ⟨h', tk', m', e, F', N', hz⟩ := q
      exact ⟨h', tk', m', nx ++ own, nx, e, F', N', fun p hp => List.mem_append.mpr (.inl hp), fun p hp => List.mem_append.mpr (.inr hp), hoff, rfl, hz⟩
    | cont =>
      obtain ⟨h', tk', m', e, F', N', hz⟩ := q
      exact ⟨h', tk', m', nx ++ own, nx, e, F', N', fun p hp => List.mem_append.mpr (.inl hp), fun p hp => List.mem_append.mpr (.inr hp), hoff, rfl, hz⟩
  · rintro m₁ nx h tk ⟨rfl, hm⟩ F₁ N₁
    refine done m₁ h tk ?_ N₁
    have em : (fun y => if y = x then m₁ y else m₀ y) = m₁ := by
      funext y
      by_cases q : y = x
      · simp only [if_pos q]
      · simp only [if_neg q]; exact (hm y q).symm
    rw [em]
    exact F₁
end
/-- what the one damper's row has of the other's, from now on -/
def Over (C1 C2 : Cfg) (row1 row2 : Option Row) (now : Int) : Prop :=
  ∀ t, now ≤ t → t < now + 2000 → penR C1.half row1 t ≤ penR C2.half row2 t ∧ (outR C1.half C1.reuse row1 t = true → outR C2.half C2.reuse row2 t = true)
theorem over_time {C1 C2 : Cfg} {q1 q2 : Row} {now v1 v2 : Int} (hr : C1.reuse = C2.reuse) (hC2 : CfgOk C2) (ho : Over C1 C2 (some q1) (some q2) now) (k1 : RowOk now (some q1)) (k2 : RowOk now (some q2)) (out2 : outR C2.half C2.reuse (some q2) now = true)
    (l1 : Least q1.fine C1.reuse C1.half v1) (l2 : Least q2.fine C2.reuse C2.half v2) : q1.since + v1 ≤ q2.since + v2 := by
  have hh2 := hC2.half
  obtain ⟨a1, a2, a3, a4⟩ := k1
  obtain ⟨b1, b2, b3, b4⟩ := k2
  have g2 : C2.reuse < dec q2.fine (now - q2.since) C2.half := of_decide_eq_true (Bool.and_eq_true_iff.mp out2).2
  have late : now - q2.since < v2 := by
    refine Decidable.byContradiction fun c => ?_
    have := dec_anti (p := q2.fine) (s := v2) (s' := now - q2.since) (h := C2.half) b1 l2.1 (by omega) (by omega)
    have := l2.2.2.1
    omega
  refine Decidable.byContradiction fun c => ?_
  have o := (ho (q2.since + v2) (by omega) (by have := l2.2.1; omega)).1
  have e2 : q2.since + v2 - q2.since = v2 := by omega
  have o1 : dec q1.fine (q2.since + v2 - q1.since) C1.half ≤ dec q2.fine v2 C2.half := by
    have : penR C1.half (some q1) (q2.since + v2) ≤ penR C2.half (some q2) (q2.since + v2) := o
    simp only [penR, e2] at this
    exact this
  have := l1.2.2.2 (q2.since + v2 - q1.since) (by omega) (by omega)
  have := l2.2.2.1
  omega
theorem over_time' {C1 C2 : Cfg} {row1 row2 : Option Row} {q1 q2 : Row} {now v1 v2 : Int} (hr : C1.reuse = C2.reuse) (hC2 : CfgOk C2) (ho : Over C1 C2 row1 row2 now) (k1 : RowOk now row1) (k2 : RowOk now row2) (out2 : outR C2.half C2.reuse row2 now = true)
    (e1 : row1 = some q1) (e2 : row2 = some q2) (l1 : Least q1.fine C1.reuse C1.half v1) (l2 : Least q2.fine C2.reuse C2.half v2) : q1.since + v1 ≤ q2.since + v2 := by
  subst e1 e2
  exact over_time hr hC2 ho k1 k2 out2 l1 l2
theorem is_sterner_c {w : World} {mean : ExcName → Option Value} {mg mb : Str → Option Value} {news : Led} {d1 dx1 c1 r1 d2 dx2 c2 r2 : Addr} {oc1 or1 oc2 or2 : Obj} {kc1 kc2 : List (Str × Value)} {kv1 kv2 : List (Int × Value)} {top1 top2 : Int} (now : Int) (C1 C2 : Cfg) (row1 row2 : Option Row) (tn : Tok)
    (D1 : DmpAt w news d1 dx1 c1 r1 oc1 or1 kc1 kv1 top1) (D2 : DmpAt w news d2 dx2 c2 r2 oc2 or2 kc2 kv2 top2) (R1 : RowAt news kv1 1 row1) (R2 : RowAt news kv2 1 row2) (k1 : ∀ t, now ≤ t → t ≤ now + 6 → RowOk t row1) (k2 : ∀ t, now ≤ t → t ≤ now + 6 → RowOk t row2) (a1 : CfgAt kc1 C1) (a2 : CfgAt kc2 C2) (hC1 : CfgOk C1) (hC2 : CfgOk C2)
    (hr : C1.reuse = C2.reuse) (ho : Over C1 C2 row1 row2 now) (hnow : 0 ≤ now ∧ now < 1000) :
    CtrL w mean mg mb 172 5 40 news [.ref d1, .ref d2, .int now tn] (fun res news' => news' = news ∧ res = .bool true) := by
  (k_with_none; (k_with "my updF" => (first | assumption | exact UpdF.tail (my_ne (by assumption) (by assumption)) (by assumption))); (k_with "my upd" => (exact updF_upd (by assumption) _)); (k_with "my mem" => (first | exact updF_new (by assumption) _ | exact updF_old (by assumption) (by assumption) (by assumption) | (refine List.mem_cons_of_mem _ ?_; k_mem) | (refine List.mem_append_right _ ?_; k_mem))); (k_with "my islist" => (exact News.isList (by k_asm) (by k_mem))); (k_with "my fact" => (first | assumption | trivial | omega | (refine ⟨?_, ?_⟩ <;> omega) | ((try dsimp only); first | assumption | omega | l_fact))); (k_with "compareOp NotIn int ref" => ((k_here; k_dflt (refine my_notin (by k_asm) (by k_mem) (by k_asm) (by k_asm) _ (by assumption) ?_); (try dsimp only [Bool.not_true, Bool.not_false])))); (k_with "compareOp In int ref" => ((k_here; k_dflt (refine my_in (by k_asm) (by k_mem) (by k_asm) (by k_asm) _ (by assumption) ?_); (try dsimp only)))); (k_with "subscriptTail" => ((k_here; k_dflt (first
  | ((with_reducible show wpAny _ _ (subscriptTail _ _ (Value.ref _) (Value.str _ _)) _ _ _); refine kda_item (knd := PySem.strKind _ _) (by k_asm) (by k_mem) (by k_asm) (strKind_is _ _ _ _) (by assumption) ?_; (try dsimp only))
  | ((with_reducible show wpAny _ _ (subscriptTail _ _ (Value.ref _) (Value.int _ _)) _ _ _); refine kda_item (knd := PySem.intKind _ _) (by k_asm) (by k_mem) (by k_asm) (intKind_is _ _ _ _) (by assumption) ?_; (try dsimp only)))))); (k_with "call builtin:min" => ((k_here; (with_reducible show wpAny _ _ (call (Value.builtin _) [Value.int _ _, Value.int _ _, Value.int _ _]) _ _ _); (with_unfolding_all refine my_min3 (by with_unfolding_all rfl) (by k_asm) (by k_asm) ?_); k_whole); intro v9 t9 h9 tk9 c9 F9 N9; (have d9 := c9 (by omega)); clear c9; (try dsimp only))); (k_with "setItem ref int" => ((k_here; (with_reducible show wpAny _ _ (setItem (Value.ref _) (Value.int _ _) (Value.ref _)) _ _ _); k_dflt (refine kda_set (knd := PySem.intKind _ _) (by k_asm) (by k_asm) (by k_updF) (by k_asm) (intKind_is _ _ _ _) (by rw [sizeLine_eq]; omega) ?_)); intro h9 o9 F9 N9 hd9; (try dsimp only at N9); (try dsimp only))); (k_with "my sub" => (intro p9 hp9; repeat (first | exact hp9 | assumption | refine List.mem_cons_of_mem _ ?_ | refine List.mem_append_right _ ?_))); (k_with "call ref" => ((k_here; (with_reducible show wpAny _ _ (call (Value.ref 102) _) _ _ _); k_dflt (refine Ctr.use9 (by k_asm) (by k_asm) (by k_asm) (by k_asm) (by k_asm) (by first | exact rfl | assumption) (by ktr_room) (by first | ktr_units | exact Nat.le_of_ble_eq_true rfl) (penalty_c _ _ _ _ _ _ (by first | assumption | exact DmpAt.mono (by assumption) (by walk_at "my sub")) (by assumption) (by assumption) (by first | assumption | exact RowAt.mono (by assumption) (by walk_at "my sub")) (by assumption)) ?_); k_whole); intro r9 n9 h9 tk9 F9 N9 P9; obtain ⟨e9, t9, e8⟩ := P9; replace e9 := e9.symm; subst e9; subst e8; (try dsimp only); (try k_fold))); (k_with "call ref" => ((k_here; (with_reducible show wpAny _ _ (call (Value.ref 116) _) _ _ _); k_dflt (refine Ctr.use9 (by k_asm) (by k_asm) (by k_asm) (by k_asm) (by k_asm) (by first | exact rfl | assumption) (by ktr_room) (by first | ktr_units | exact Nat.le_of_ble_eq_true rfl) (is_left_out_c _ _ _ _ _ _ _ (by first | assumption | exact DmpAt.mono (by assumption) (by walk_at "my sub")) (by assumption) (by assumption) (by assumption) (by first | assumption | exact RowAt.mono (by assumption) (by walk_at "my sub")) (by assumption)) ?_); k_whole); intro r9 n9 h9 tk9 F9 N9 P9; obtain ⟨e9, e8⟩ := P9; replace e9 := e9.symm; subst e9; subst e8; (try dsimp only); (try k_fold))); (k_with "call ref" => ((k_here; (with_reducible show wpAny _ _ (call (Value.ref 123) _) _ _ _); k_dflt (refine Ctr.use9 (by k_asm) (by k_asm) (by k_asm) (by k_asm) (by k_asm) (by first | exact rfl | assumption) (by ktr_room) (by first | ktr_units | exact Nat.le_of_ble_eq_true rfl) (reuse_time_c _ _ _ _ _ _ (by first | assumption | exact DmpAt.mono (by assumption) (by walk_at "my sub")) (by first | assumption | exact RowAt.mono (by assumption) (by walk_at "my sub")) (by assumption) (by assumption) (by assumption)) ?_); k_whole); intro r9 n9 h9 tk9 F9 N9 P9; obtain ⟨e9, P9⟩ := P9; replace e9 := e9.symm; subst e9; (rcases P9 with ⟨ho9, e8⟩ | ⟨ho9, q9, v9, t9, hq9, hl9, e8⟩) <;> (subst e8; (try dsimp only); (try k_fold)); (try dsimp only); (try k_fold))); (k_with "exec For Name Call cons nil" => ((k_here; (rename Fr _ _ _ _ => lF9); (with_unfolding_all refine For_invVF lF9 (by exact rfl) (by exact rfl) ?_); k_whole))); (k_with "pyIter ref" => (refine Stop.mk ?_)))
  have j1 := a1.half
  have j2 := a2.half
  have j3 := a1.reuse
  have j4 := a2.reuse
  have i1 : 1 ≤ C1.half ∧ C1.half ≤ 5 := ⟨by have := hC1.half; omega, hC1.half.2⟩
  have i2 : 1 ≤ C2.half ∧ C2.half ≤ 5 := ⟨by have := hC2.half; omega, hC2.half.2⟩
  have z1 := k1 now (by omega) (by omega)
  have z2 := k2 now (by omega) (by omega)
  (unfold CtrL Ctr; k_fill; intro dp un gd cn cs a ccd cl outer A₀ base h₀ L m s0 Q E B F X N T hk hd hu hret; refine wpAny_call ?_; k_dflt ktr_enter)
  k_steps
  refine Stop.go ?_
  (rename Fr _ _ _ _ => lF)
  (rename News _ _ _ _ => lN)
  (rename IsRange _ _ _ _ _ _ _ _ => lR)
  refine my_range_ro (n := 6) rfl lR (small_one (by omega) (by omega) (by omega) (by omega)) (by rw [rangeSize_nat]; omega) lF lN ?_ ?_
  · clear lF lN lR
    intro i ti h1 tk1 nw hi hsub F1 N1
    have E1 := D1.mono hsub
    have E2 := D2.mono hsub
    have G1 := R1.mono hsub
    have G2 := R2.mono hsub
    have y1 := k1 (now + i) (by omega) (by omega)
    have y2 := k2 (now + i) (by omega) (by omega)
    obtain ⟨le9, out9⟩ := ho (now + i) (by omega) (by omega)
    have w1 := E1.hd
    obtain ⟨x11, y11, x12, y12, x13, y13, y14, w2⟩ := E1.hx
    have w3 := E2.hd
    obtain ⟨x21, y21, x22, y22, x23, y23, y24, w4⟩ := E2.hx
    (try dsimp only)
    (try k_fold)
    k_steps
    all_goals first
      | exact ⟨_, _, _, rfl, by k_asm, by k_asm, fun z hz => if_neg hz⟩
      | (exfalso; simp_all; done)
  · clear lF lN lR
    intro u h1 tk1 F1 N1
    have w1 := D1.hd
    obtain ⟨x11, y11, x12, y12, x13, y13, y14, w2⟩ := D1.hx
    have w3 := D2.hd
    obtain ⟨x21, y21, x22, y22, x23, y23, y24, w4⟩ := D2.hx
    have oo := (ho now (by omega) (by omega)).2
    (try dsimp only)
    (try k_fold)
    k_steps
    all_goals first
      | (refine hret _ news _ _ (by k_asm) ?_ ⟨rfl, rfl⟩; (first | assumption | (refine cb_drop (by assumption) ?_; intro q9 hq9; simp only [List.mem_cons, hq9, or_true])); done)
      | (refine hret _ news _ _ (by k_asm) ?_ ⟨rfl, congrArg Value.bool (decide_eq_true (over_time' hr hC2 ho z1 z2 (by assumption) (by assumption) (by assumption) (by assumption) (by assumption)))⟩; (first | assumption | (refine cb_drop (by assumption) ?_; intro q9 hq9; simp only [List.mem_cons, hq9, or_true])); done)
      | (exfalso; simp_all; done)
/-- bounds of a row behind k fines -/
def RowB (k now : Int) : Option Row → Prop
  | none => True
  | some q => 0 ≤ q.fine ∧ q.fine ≤ 300 * k ∧ 0 ≤ q.since ∧ q.since ≤ now
theorem RowB.ok {k now : Int} {row : Option Row} (h : RowB k now row) (hk : k < 1000) (hn : now < 500) {t : Int} (h1 : now ≤ t) (h2 : t < now + 300) : RowOk t row := by
  cases row with
  | none => trivial
  | some q =>
    obtain ⟨a, b, c, d⟩ := h
    exact ⟨a, by omega, by omega, by omega⟩
theorem RowB.mono {k k' now now' : Int} {row : Option Row} (h : RowB k now row) (hk : k ≤ k') (hn : now ≤ now') : RowB k' now' row := by
  cases row with
  | none => trivial
  | some q =>
    obtain ⟨a, b, c, d⟩ := h
    exact ⟨a, by omega, c, by omega⟩
theorem pen_nn {k now h t : Int} {row : Option Row} (hb : RowB k now row) (hh : 1 ≤ h) : 0 ≤ penR h row t := by
  cases row with
  | none => exact Int.le_refl 0
  | some q => exact dec_nn hb.1 hh
theorem pen_le {k now h t : Int} {row : Option Row} (hb : RowB k now row) (hk : 0 ≤ k) (hh : 1 ≤ h) (ht : now ≤ t) : penR h row t ≤ 300 * k := by
  cases row with
  | none => show (0 : Int) ≤ _; omega
  | some q =>
    obtain ⟨a, b, c, d⟩ := hb
    have : dec q.fine (t - q.since) h ≤ q.fine := dec_le a (by omega) hh
    show dec q.fine (t - q.since) h ≤ _
    omega
theorem pen_anti {k now h t t' : Int} {row : Option Row} (hb : RowB k now row) (hh : 1 ≤ h) (h1 : now ≤ t) (h2 : t ≤ t') : penR h row t' ≤ penR h row t := by
  cases row with
  | none => exact Int.le_refl 0
  | some q =>
    obtain ⟨a, b, c, d⟩ := hb
    exact dec_anti a (by omega) hh (by omega)
theorem finR_B {C : Cfg} {top add k now : Int} {row : Option Row} (hb : RowB k now row) (hk : 0 ≤ k) (hh : 1 ≤ C.half) (ht : 0 ≤ top) (ha : 0 ≤ add ∧ add ≤ 300) (hn : 0 ≤ now) : RowB (k + 1) now (some (finR C top add row now)) := by
  have h1 := pen_nn (t := now) hb hh
  have h2 := pen_le (t := now) hb hk hh (Int.le_refl _)
  refine ⟨?_, ?_, hn, Int.le_refl _⟩
  · show 0 ≤ min top (penR C.half row now + add); omega
  · show min top (penR C.half row now + add) ≤ 300 * (k + 1); omega
/-- the stern one's row has it over the mild one's, for good -/
structure Ov (C1 C2 : Cfg) (top1 : Int) (row1 row2 : Option Row) (now : Int) : Prop where
  pen : ∀ t, now ≤ t → penR C1.half row1 t ≤ penR C2.half row2 t
  out : ∀ t, now ≤ t → outR C1.half C1.reuse row1 t = true → outR C2.half C2.reuse row2 t = true
  low : ∀ q, row1 = some q → q.fine ≤ top1
theorem Ov.over {C1 C2 : Cfg} {top1 : Int} {row1 row2 : Option Row} {now : Int} (h : Ov C1 C2 top1 row1 row2 now) : Over C1 C2 row1 row2 now := fun t ht _ => ⟨h.pen t ht, h.out t ht⟩
theorem Ov.later {C1 C2 : Cfg} {top1 : Int} {row1 row2 : Option Row} {now now' : Int} (h : Ov C1 C2 top1 row1 row2 now) (hn : now ≤ now') : Ov C1 C2 top1 row1 row2 now' := ⟨fun t ht => h.pen t (by omega), fun t ht => h.out t (by omega), h.low⟩
theorem out_pen {h reuse t : Int} {row : Option Row} (k : outR h reuse row t = true) : reuse < penR h row t := by
  cases row with
  | none => cases k
  | some q => exact of_decide_eq_true (Bool.and_eq_true_iff.mp k).2
theorem out_back {k now h reuse t : Int} {row : Option Row} (hb : RowB k now row) (hh : 1 ≤ h) (h1 : now ≤ t) (o : outR h reuse row t = true) : outR h reuse row now = true := by
  cases row with
  | none => cases o
  | some q =>
    have p := out_pen o
    have a := pen_anti (t := now) (t' := t) hb hh (Int.le_refl _) h1
    have o1 := (Bool.and_eq_true_iff.mp o).1
    show (q.out && decide (reuse < penR h (some q) now)) = true
    rw [o1, Bool.true_and]
    exact decide_eq_true (by omega)
theorem Ov.alone {C1 C2 : Cfg} {top1 top2 add k now : Int} {row1 row2 : Option Row} (h : Ov C1 C2 top1 row1 row2 now) (b1 : RowB k now row1) (_b2 : RowB k now row2) (hh : 1 ≤ C1.half) (eh : C1.half = C2.half) (er : C1.reuse = C2.reuse) (ht : top1 ≤ top2) (ha : 1 ≤ add) (ht0 : 0 ≤ top2) (h2n : 0 ≤ penR C2.half row2 now) :
    Ov C1 C2 top1 row1 (some (finR C2 top2 add row2 now)) now := by
  have p0 := h.pen now (Int.le_refl _)
  have pen : ∀ t, now ≤ t → penR C1.half row1 t ≤ penR C2.half (some (finR C2 top2 add row2 now)) t := fun t hnt => by
    show penR C1.half row1 t ≤ dec (min top2 (penR C2.half row2 now + add)) (t - now) C2.half
    rw [← eh] at p0 ⊢
    rw [← eh] at h2n
    cases row1 with
    | none => exact dec_nn (by omega) hh
    | some q =>
      obtain ⟨a, b, c, d⟩ := b1
      by_cases q1 : top2 ≤ penR C1.half row2 now + add
      · rw [Int.min_eq_left q1]
        have e1 : dec q.fine (t - q.since) C1.half ≤ dec q.fine (t - now) C1.half := dec_anti a (by omega) hh (by omega)
        have e2 : dec q.fine (t - now) C1.half ≤ dec top2 (t - now) C1.half := dec_mono hh (by have := h.low q rfl; omega)
        exact Int.le_trans e1 e2
      · rw [Int.min_eq_right (by omega)]
        have e := dec_comp (p := q.fine) (a := now - q.since) (b := t - now) (h := C1.half) (x := penR C1.half row2 now + add) a (by omega) (by omega) hh (by
          have : dec q.fine (now - q.since) C1.half ≤ penR C1.half row2 now := p0
          omega)
        rwa [show now - q.since + (t - now) = t - q.since by omega] at e
  refine ⟨pen, fun t hnt o => ?_, h.low⟩
  have o0 := h.out now (Int.le_refl _) (out_back b1 hh hnt o)
  have g := out_pen o
  have g2 := pen t hnt
  have g3 : C2.reuse < dec (min top2 (penR C2.half row2 now + add)) (t - now) C2.half := by
    have : penR C2.half (some (finR C2 top2 add row2 now)) t = dec (min top2 (penR C2.half row2 now + add)) (t - now) C2.half := rfl
    omega
  have g4 := dec_le (p := min top2 (penR C2.half row2 now + add)) (s := t - now) (h := C2.half) (by omega) (by omega) (by omega)
  show (((outR C2.half C2.reuse row2 now && decide (C2.reuse < min top2 (penR C2.half row2 now + add))) || decide (C2.suppress ≤ min top2 (penR C2.half row2 now + add))) && decide (C2.reuse < dec (min top2 (penR C2.half row2 now + add)) (t - now) C2.half)) = true
  rw [o0, decide_eq_true g3, decide_eq_true (show C2.reuse < min top2 (penR C2.half row2 now + add) by omega)]
  rfl
theorem Ov.both {C1 C2 : Cfg} {top1 top2 add1 add2 now : Int} {row1 row2 : Option Row} (h : Ov C1 C2 top1 row1 row2 now) (hh : 1 ≤ C1.half) (eh : C1.half = C2.half) (er : C1.reuse = C2.reuse) (es : C2.suppress ≤ C1.suppress) (ht : top1 ≤ top2) (ha : add1 ≤ add2) :
    Ov C1 C2 top1 (some (finR C1 top1 add1 row1 now)) (some (finR C2 top2 add2 row2 now)) now ∧ ((finR C1 top1 add1 row1 now).out = true → (finR C2 top2 add2 row2 now).out = true) := by
  have p0 := h.pen now (Int.le_refl _)
  have f : min top1 (penR C1.half row1 now + add1) ≤ min top2 (penR C2.half row2 now + add2) := by omega
  have out : (finR C1 top1 add1 row1 now).out = true → (finR C2 top2 add2 row2 now).out = true := fun o => by
    have o' : ((outR C1.half C1.reuse row1 now && decide (C1.reuse < min top1 (penR C1.half row1 now + add1))) || decide (C1.suppress ≤ min top1 (penR C1.half row1 now + add1))) = true := o
    show ((outR C2.half C2.reuse row2 now && decide (C2.reuse < min top2 (penR C2.half row2 now + add2))) || decide (C2.suppress ≤ min top2 (penR C2.half row2 now + add2))) = true
    rcases Bool.or_eq_true_iff.mp o' with o1 | o1
    · obtain ⟨o2, o3⟩ := Bool.and_eq_true_iff.mp o1
      have o3 := of_decide_eq_true o3
      rw [h.out now (Int.le_refl _) o2, decide_eq_true (show C2.reuse < min top2 (penR C2.half row2 now + add2) by omega)]
      rfl
    · have o1 := of_decide_eq_true o1
      rw [decide_eq_true (show C2.suppress ≤ min top2 (penR C2.half row2 now + add2) by omega), Bool.or_true]
  have pen : ∀ t, now ≤ t → penR C1.half (some (finR C1 top1 add1 row1 now)) t ≤ penR C2.half (some (finR C2 top2 add2 row2 now)) t := fun t _ => by
    show dec (min top1 (penR C1.half row1 now + add1)) (t - now) C1.half ≤ dec (min top2 (penR C2.half row2 now + add2)) (t - now) C2.half
    rw [← eh] at f ⊢
    exact dec_mono hh f
  refine ⟨⟨pen, fun t hnt o => ?_, fun q hq => ?_⟩, out⟩
  · obtain ⟨o1, o2⟩ := Bool.and_eq_true_iff.mp o
    have g := out_pen o
    have g2 := pen t hnt
    show ((finR C2 top2 add2 row2 now).out && decide (C2.reuse < penR C2.half (some (finR C2 top2 add2 row2 now)) t)) = true
    rw [out o1, decide_eq_true (show C2.reuse < penR C2.half (some (finR C2 top2 add2 row2 now)) t by omega)]
    rfl
  · obtain rfl := Option.some.inj hq
    show min top1 (penR C1.half row1 now + add1) ≤ top1
    omega
theorem ov_none {C1 C2 : Cfg} {top1 now : Int} : Ov C1 C2 top1 none none now := ⟨fun _ _ => Int.le_refl 0, (fun _ _ o => by cases o), fun _ hq => by cases hq⟩
theorem gpen_nn {reuse most half : Int} (hr : 0 ≤ reuse) (hm : 0 ≤ most) (hh : 1 ≤ half) : 0 ≤ gpen reuse most half := by
  have h3 := fmod_bounds (a := most) (b := half) hh
  have h2 := two_pow_pos (most.fdiv half).toNat
  exact fdiv_nn (Int.mul_nonneg hr (Int.mul_nonneg (by omega) (by omega))) (by omega)
theorem gpen_step {reuse most half : Int} (hr : 0 ≤ reuse) (hm : 0 ≤ most) (hh : 1 ≤ half) : gpen reuse most half ≤ gpen reuse (most + 1) half := by
  have b1 := fmod_bounds (a := most) (b := half) hh
  have b2 := fmod_bounds (a := most + 1) (b := half) hh
  have p1 := two_pow_pos (most.fdiv half).toNat
  unfold gpen
  rw [Int.fdiv_eq_ediv_of_nonneg (reuse * (2 * half * 2 ^ (most.fdiv half).toNat)) (by omega), Int.fdiv_eq_ediv_of_nonneg (reuse * (2 * half * 2 ^ ((most + 1).fdiv half).toNat)) (by omega)]
  rw [Int.fdiv_eq_ediv_of_nonneg most (by omega), Int.fmod_eq_emod_of_nonneg most (by omega)] at *
  rw [Int.fdiv_eq_ediv_of_nonneg (most + 1) (by omega), Int.fmod_eq_emod_of_nonneg (most + 1) (by omega)] at *
  have ht : 0 ≤ most / half := Int.ediv_nonneg hm (by omega)
  have x0 : 0 ≤ reuse * (2 * half * 2 ^ (most / half).toNat) := Int.mul_nonneg hr (Int.mul_nonneg (by omega) (by omega))
  rw [Int.le_ediv_iff_mul_le (by omega)]
  rcases dm_next (s := most) hh with ⟨e1, e2⟩ | ⟨e1, e2, e3⟩
  · rw [e1, e2]
    refine Int.le_trans (Int.mul_le_mul_of_nonneg_left (show 2 * half - (most % half + 1) ≤ 2 * half - most % half by omega) (Int.ediv_nonneg x0 (by omega))) ?_
    exact Int.ediv_mul_le _ (by omega)
  · rw [e1, e2, toNat_succ ht, Int.pow_succ, e3]
    have y := Int.ediv_mul_le (reuse * (2 * half * 2 ^ (most / half).toNat)) (show 2 * half - (half - 1) ≠ 0 by omega)
    have yn : 0 ≤ reuse * (2 * half * 2 ^ (most / half).toNat) / (2 * half - (half - 1)) := Int.ediv_nonneg x0 (by omega)
    generalize reuse * (2 * half * 2 ^ (most / half).toNat) / (2 * half - (half - 1)) = z at *
    have e4 : reuse * (2 * half * (2 ^ (most / half).toNat * 2)) = reuse * (2 * half * 2 ^ (most / half).toNat) * 2 := by grind
    rw [e4]
    have e5 : z * (2 * half - 0) = z * half * 2 := by grind
    rw [e5]
    have e6 : z * (2 * half - (half - 1)) = z * half + z := by grind
    rw [e6] at y
    omega
theorem gpen_mono {reuse most half : Int} (hr : 0 ≤ reuse) (hm : 0 ≤ most) (hh : 1 ≤ half) : ∀ n : Nat, gpen reuse most half ≤ gpen reuse (most + n) half
  | 0 => by simp
  | n + 1 => by
    have i := gpen_mono hr hm hh n
    have s := gpen_step (reuse := reuse) (most := most + n) (half := half) hr (by omega) hh
    have e : most + ((n + 1 : Nat) : Int) = most + n + 1 := by omega
    rw [e]
    omega
section
variable {prog : Program} {w : World} {K : Frag} {p : Program} {loose : List Str} {mean : ExcName → Option Value} {mg mb : Str → Option Value} {f : Addr} {d0 u0 : Nat} {news : Led} {vs : List Value} {Post Post' : Value → Led → Prop}
theorem Ctr.mono (C : Ctr prog w K p loose mean mg mb f d0 u0 news vs Post) (h : ∀ r n, Post r n → Post' r n) : Ctr prog w K p loose mean mg mb f d0 u0 news vs Post' :=
  fun dp un gd cn cs a ccd cl outer A₀ base h₀ L m s Q E B F X N T hk hd hu ret => C dp un gd cn cs a ccd cl outer A₀ base h₀ L m s Q E B F X N T hk hd hu fun r n h' tk F' N' hP => ret r n h' tk F' N' (h r n hP)
end
theorem updF_at {d : Addr} {o : Obj} {post : Led} (h2 : ∀ p ∈ post, p.1 ≠ d) : ∀ {pre : Led}, (∀ p ∈ pre, p.1 ≠ d) → ∃ g, UpdF d o (pre ++ (d, o) :: post) g ∧ ∀ o', g o' = pre ++ (d, o') :: post
  | [], _ => ⟨_, .head h2, fun _ => rfl⟩
  | p :: r, h => by
    obtain ⟨g, U, hg⟩ := updF_at h2 (pre := r) fun q hq => h q (.tail _ hq)
    exact ⟨_, .tail (h p (.head _)) U, fun o' => by show p :: g o' = _; rw [hg]; rfl⟩
/-- the ledger with one object of its changed -/
theorem led_upd {nx own : Led} {r : Addr} {o : Obj} (hm : (r, o) ∈ nx) (nd : (nx.map (·.1)).Nodup) (off : OwnOff own (nx.map (·.1))) :
    ∃ g, UpdF r o (nx ++ own) g ∧ ∀ o', ∃ nx', g o' = nx' ++ own ∧ nx'.map (·.1) = nx.map (·.1) ∧ (r, o') ∈ nx' ∧ ∀ p ∈ nx, p.1 ≠ r → p ∈ nx' := by
  obtain ⟨pre, post, rfl⟩ := List.append_of_mem hm
  have off' : ∀ p ∈ own, p.1 ≠ r := fun p hp => off p hp r (List.mem_map.mpr ⟨(r, o), hm, rfl⟩)
  simp only [List.map_append, List.map_cons] at nd
  obtain ⟨n1, n2, n3⟩ := List.nodup_append.mp nd
  have n2' := List.nodup_cons.mp n2
  obtain ⟨g, U, hg⟩ := updF_at (d := r) (o := o) (post := post ++ own) (pre := pre) (fun p hp => by
    rcases List.mem_append.mp hp with hp | hp
    · intro e; exact n2'.1 (List.mem_map.mpr ⟨p, hp, e⟩)
    · exact off' p hp) (fun p hp e => n3 p.1 (List.mem_map.mpr ⟨p, hp, rfl⟩) r (.head _) e)
  have e0 : pre ++ (r, o) :: (post ++ own) = pre ++ (r, o) :: post ++ own := by simp
  rw [e0] at U
  refine ⟨g, U, fun o' => ⟨pre ++ (r, o') :: post, ?_, ?_, List.mem_append_right _ (.head _), fun p hp hne => ?_⟩⟩
  · rw [hg]; simp
  · simp
  · rcases List.mem_append.mp hp with hp | hp
    · exact List.mem_append_left _ hp
    · rcases List.mem_cons.mp hp with rfl | hp
      · exact absurd rfl hne
      · exact List.mem_append_right _ (.tail _ hp)
theorem same_obj {nx : Led} (nd : (nx.map (·.1)).Nodup) {x : Addr} {o o' : Obj} (h : (x, o) ∈ nx) (h' : (x, o') ∈ nx) : o = o' := by
  induction nx with
  | nil => cases h
  | cons p r ih =>
    have n := List.nodup_cons.mp nd
    rcases List.mem_cons.mp h with e | h
    · rcases List.mem_cons.mp h' with e' | h'
      · exact congrArg Prod.snd (e.trans e'.symm)
      · exact absurd (List.mem_map.mpr ⟨_, h', by rw [← e]⟩) n.1
    · rcases List.mem_cons.mp h' with e' | h'
      · exact absurd (List.mem_map.mpr ⟨_, h, by rw [← e']⟩) n.1
      · exact ih n.2 h h'
theorem ne_of_cls {nx : Led} (nd : (nx.map (·.1)).Nodup) {x y : Addr} {o o' : Obj} (h : (x, o) ∈ nx) (h' : (y, o') ∈ nx) (hc : o.cls ≠ o'.cls) : x ≠ y := fun e => by
  subst e
  exact hc (congrArg Obj.cls (same_obj nd h h'))
theorem dict_cls {prog : Program} {w : World} {K : Type} [DecidableEq K] {knd : PySem.KeyKind prog w K} {o : Obj} {kvs : List (K × Value)} (h : o.IsDictOf knd kvs) : o.cls = .type "dict" := by
  obtain ⟨_, _, h, _⟩ := h
  exact h.1
theorem val_put {kvs : List (Int × Value)} {k : Int} {v : Value} : valueAt (stored kvs k v) k = some v := by
  unfold valueAt stored
  split
  · rename_i h
    induction kvs with
    | nil => cases h
    | cons q r ih =>
      simp only [List.any_cons, Bool.or_eq_true, decide_eq_true_eq] at h
      by_cases e : q.1 = k
      · simp [e]
      · simp only [List.map_cons, if_neg e, List.find?_cons, decide_eq_false e]
        exact ih (by simpa [e] using h)
  · rename_i h
    simp only [List.any_eq_true, decide_eq_true_eq, not_exists, not_and] at h
    rw [List.find?_append, List.find?_eq_none.mpr (fun x hx => by simpa using h x hx)]
    simp
theorem val_put_ne {kvs : List (Int × Value)} {k j : Int} {v : Value} (hne : j ≠ k) : valueAt (stored kvs k v) j = valueAt kvs j := by
  unfold valueAt stored
  split
  · rename_i h
    clear h
    induction kvs with
    | nil => rfl
    | cons q r ih =>
      by_cases e : q.1 = k
      · have e2 : ¬ q.1 = j := fun e3 => hne (e3.symm.trans e)
        simp only [List.map_cons, if_pos e, List.find?_cons, decide_eq_false e2]
        exact ih
      · simp only [List.map_cons, if_neg e, List.find?_cons]
        cases decide (q.1 = j) with
        | true => rfl
        | false => exact ih
  · rw [List.find?_append]
    cases h : kvs.find? fun kv => decide (kv.1 = j) with
    | some q => rfl
    | none => simp [Ne.symm hne]
theorem len_put {kvs : List (Int × Value)} {k : Int} {v : Value} : (stored kvs k v).length ≤ kvs.length + 1 := by
  unfold stored
  split
  · simp
  · simp
theorem len_put_has {kvs : List (Int × Value)} {k : Int} {v : Value} (h : (kvs.any fun kv => decide (kv.1 = k)) = true) : (stored kvs k v).length = kvs.length := by
  unfold stored
  rw [if_pos h]
  simp

def IsWord (x : Str) : Prop := x = Str.ofString "withdrawn" ∨ x = Str.ofString "changed" ∨ x = Str.ofString "again"
def wAdd (C : Cfg) (x : Str) : Int := if x = Str.ofString "withdrawn" then C.wd else if x = Str.ofString "changed" then C.ch else C.ag
theorem CfgAt.word {kc : List (Str × Value)} {C : Cfg} (h : CfgAt kc C) {x : Str} (hx : IsWord x) : CfgIs kc x (wAdd C x) := by
  rcases hx with rfl | rfl | rfl
  · exact h.wd
  · exact h.ch
  · exact h.ag
theorem CfgOk.word {C : Cfg} (h : CfgOk C) (x : Str) : 1 ≤ wAdd C x ∧ wAdd C x ≤ 300 := by
  unfold wAdd
  split
  · exact h.wd
  · split
    · exact h.ch
    · exact h.ag
theorem my_word {prog : Program} {w : World} {A : Around} {E : Value → Shared → Prop} {s : Shared} {h₀ : Heap} {L lw : Addr} {news : Led} {value slice : PySem.Expr} {a b c : Tok} {n : Nat} {k : Int} {u : Tok} {Q : Value → Shared → Prop} (N : News h₀ L s.heap news)
    (hm : (lw, W.listOf [.str (Str.ofString "withdrawn") a, .str (Str.ofString "changed") b, .str (Str.ofString "again") c].toArray n) ∈ news) (h0 : 0 ≤ k) (h3 : k < 3) (h : ∀ x t, IsWord x → Q (.str x t) s)
    (hs : subscripted slice false (.ref lw) (.int k u) = operate [.ref lw, .int k u] (getItem (.ref lw) (.int k u)) := by with_unfolding_all rfl) :
    wpAny (model prog w) A (subscriptTail value slice (.ref lw) (.int k u)) Q E s := by
  have hl := News.isList N hm
  have e : k = 0 ∨ k = 1 ∨ k = 2 := by omega
  rcases e with rfl | rfl | rfl
  · exact item_litK hl (by decide) (by decide) rfl (h _ _ (.inl rfl)) hs
  · exact item_litK hl (by decide) (by decide) rfl (h _ _ (.inr (.inl rfl))) hs
  · exact item_litK hl (by decide) (by decide) rfl (h _ _ (.inr (.inr rfl))) hs

/-- what stays as it was laid -/
structure Ad where
  b : Addr
  li : Addr
  lw : Addr
  d1 : Addr
  dx1 : Addr
  c1 : Addr
  r1 : Addr
  d2 : Addr
  dx2 : Addr
  c2 : Addr
  r2 : Addr
  vs : List Value
  ns : List Int
  n2 : Nat
  oc1 : Obj
  oc2 : Obj
  kc1 : List (Str × Value)
  kc2 : List (Str × Value)
  C1 : Cfg
  C2 : Cfg
  top1 : Int
  top2 : Int
structure AdOk (a : Ad) : Prop where
  isInts : IntsAre a.vs a.ns
  len : a.ns.length ≤ 100
  f1 : CfgAt a.kc1 a.C1
  f2 : CfgAt a.kc2 a.C2
  o1 : CfgOk a.C1
  o2 : CfgOk a.C2
  half : a.C1.half = a.C2.half
  reuse : a.C1.reuse = a.C2.reuse
  supp : a.C2.suppress ≤ a.C1.suppress
  wd : a.C1.wd ≤ a.C2.wd
  ch : a.C1.ch ≤ a.C2.ch
  ag : a.C1.ag ≤ a.C2.ag
  t0 : 0 ≤ a.top1
  tt : a.top1 ≤ a.top2
  bl : a.li ≠ a.b
  bw : a.lw ≠ a.b
  x1 : a.dx1 ≠ a.r1
  x2 : a.c1 ≠ a.r1
  x3 : a.dx2 ≠ a.r1
  x4 : a.c2 ≠ a.r1
  x5 : a.r2 ≠ a.r1
  y1 : a.dx1 ≠ a.r2
  y2 : a.c1 ≠ a.r2
  y3 : a.dx2 ≠ a.r2
  y4 : a.c2 ≠ a.r2
theorem AdOk.add {a : Ad} (h : AdOk a) (x : Str) : wAdd a.C1 x ≤ wAdd a.C2 x := by
  unfold wAdd
  split
  · exact h.wd
  · split
    · exact h.ch
    · exact h.ag
structure LS (w : World) (nx : Led) (a : Ad) (cnt : Int) (or1 or2 : Obj) (kv1 kv2 : List (Int × Value)) (row1 row2 : Option Row) : Prop where
  nd : (nx.map (·.1)).Nodup
  box : ∃ ts nb, (a.b, W.listOf [.ref a.li, .int cnt ts].toArray nb) ∈ nx
  inner : (a.li, W.listOf a.vs.toArray a.n2) ∈ nx
  words : ∃ x y z n, (a.lw, W.listOf [.str (Str.ofString "withdrawn") x, .str (Str.ofString "changed") y, .str (Str.ofString "again") z].toArray n) ∈ nx
  D1 : DmpAt w nx a.d1 a.dx1 a.c1 a.r1 a.oc1 or1 a.kc1 kv1 a.top1
  D2 : DmpAt w nx a.d2 a.dx2 a.c2 a.r2 a.oc2 or2 a.kc2 kv2 a.top2
  R1 : RowAt nx kv1 1 row1
  R2 : RowAt nx kv2 1 row2
  l1 : kv1.length ≤ 1
  l2 : kv2.length ≤ 1
  k1 : ∀ q ∈ kv1, q.1 = 1
  k2 : ∀ q ∈ kv2, q.1 = 1
def LSt (w : World) (nx : Led) (a : Ad) (cnt : Int) (row1 row2 : Option Row) : Prop := ∃ or1 or2 kv1 kv2, LS w nx a cnt or1 or2 kv1 kv2 row1 row2
theorem RowAt.keep {nx nx' : Led} {kvs : List (Int × Value)} {k : Int} {row : Option Row} {r : Addr} (R : RowAt nx kvs k row) (keep : ∀ p ∈ nx, p.1 ≠ r → p ∈ nx') {o : Obj} (nd : (nx.map (·.1)).Nodup) (hr : (r, o) ∈ nx) (hc : o.cls ≠ .type "tuple") : RowAt nx' kvs k row := by
  cases row with
  | none => exact R
  | some q =>
    obtain ⟨t, t1, t2, e, hm⟩ := R
    exact ⟨t, t1, t2, e, keep _ hm (ne_of_cls nd hm hr (fun q => hc q.symm))⟩
theorem inst_cls {C d : Addr} : (instObj C d).cls = .ref C := rfl
theorem DmpAt.keep {w : World} {nx nx' : Led} {d dx c r s : Addr} {oc orr o : Obj} {kc : List (Str × Value)} {kvs : List (Int × Value)} {top : Int} (D : DmpAt w nx d dx c r oc orr kc kvs top) (keep : ∀ p ∈ nx, p.1 ≠ s → p ∈ nx')
    (h1 : d ≠ s) (h2 : dx ≠ s) (h3 : c ≠ s) (h4 : r ≠ s) : DmpAt w nx' d dx c r oc orr kc kvs top :=
  ⟨keep _ D.hd h1, let ⟨x1, y1, x2, y2, x3, y3, y4, q⟩ := D.hx; ⟨x1, y1, x2, y2, x3, y3, y4, keep _ q h2⟩, keep _ D.hc h3, D.hcd, keep _ D.hr h4, D.hrd, D.hrs, D.hlen⟩
theorem DmpAt.put {w : World} {nx nx' : Led} {d dx c r : Addr} {oc orr o : Obj} {kc : List (Str × Value)} {kvs kvs' : List (Int × Value)} {top : Int} (D : DmpAt w nx d dx c r oc orr kc kvs top) (keep : ∀ p ∈ nx, p.1 ≠ r → p ∈ nx')
    (h1 : d ≠ r) (h2 : dx ≠ r) (h3 : c ≠ r) (hm : (r, o) ∈ nx') (ho : o.IsDictOf (PySem.intKind PySem.Challenge.rw_sj0173_02.row.prog w) kvs') (hl : kvs'.length ≤ 100) : DmpAt w nx' d dx c r oc o kc kvs' top :=
  ⟨keep _ D.hd h1, let ⟨x1, y1, x2, y2, x3, y3, y4, q⟩ := D.hx; ⟨x1, y1, x2, y2, x3, y3, y4, keep _ q h2⟩, keep _ D.hc h3, D.hcd, hm, ho, D.hrs, hl⟩
theorem keys_put {kvs : List (Int × Value)} {v : Value} (hl : kvs.length ≤ 1) (hk : ∀ q ∈ kvs, q.1 = 1) : (stored kvs 1 v).length ≤ 1 ∧ ∀ q ∈ stored kvs 1 v, q.1 = 1 := by
  match kvs, hl, hk with
  | [], _, _ => exact ⟨by simp [stored], fun q hq => by simp [stored] at hq; rw [hq]⟩
  | [p], _, hk =>
    have e : p.1 = 1 := hk p (.head _)
    exact ⟨by simp [stored, e], fun q hq => by simp [stored, e] at hq; rw [hq]⟩
theorem draw_l {w : World} {mean : ExcName → Option Value} {mg mb : Str → Option Value} {nx own : Led} {a : Ad} {cnt : Int} {row1 row2 : Option Row} (many : Int) (tm : Tok) (S : LSt w nx a cnt row1 row2) (off : OwnOff own (nx.map (·.1))) (ha : AdOk a) (hs : 0 ≤ cnt ∧ cnt < 1000) (hm : 1 ≤ many ∧ many ≤ 100) :
    CtrL w mean mg mb 165 1 8 (nx ++ own) [.ref a.b, .int many tm] (fun r news' => ∃ v t nx', r = .int v t ∧ 0 ≤ v ∧ v < many ∧ news' = nx' ++ own ∧ OwnOff own (nx'.map (·.1)) ∧ LSt w nx' a (cnt + 1) row1 row2) := by
  obtain ⟨or1, or2, kv1, kv2, S⟩ := S
  obtain ⟨ts, nb, hb⟩ := S.box
  obtain ⟨g, U, hg⟩ := led_upd hb S.nd off
  refine Ctr.mono (law_draw_c cnt many ts tm U (List.mem_append_left _ S.inner) ha.bl ha.isInts ha.len hs hm) ?_
  rintro r n ⟨v, t, t', n', e1, e2, e3, e4⟩
  obtain ⟨nx', q1, q2, q3, q4⟩ := hg (W.listOf [Value.ref a.li, Value.int (cnt + 1) t'].toArray n')
  have li : ∀ {x : Addr} {o : Obj}, (x, o) ∈ nx → o.cls ≠ .type "list" → (x, o) ∈ nx' := fun h hc => q4 _ h (ne_of_cls S.nd h hb hc)
  have lne : ∀ {x : Addr} {o : Obj}, (x, o) ∈ nx → o.cls ≠ .type "list" → x ≠ a.b := fun h hc => ne_of_cls S.nd h hb hc
  have dc : (Value.type "dict") ≠ .type "list" := by decide
  obtain ⟨x1, y1, x2, y2, x3, y3, y4, hx1⟩ := S.D1.hx
  obtain ⟨u1, v1, u2, v2, u3, v3, v4, hx2⟩ := S.D2.hx
  refine ⟨v, t, nx', e1, e2, e3, by rw [e4, q1], by rw [q2]; exact off, or1, or2, kv1, kv2, ⟨by rw [q2]; exact S.nd, ⟨t', n', q3⟩, q4 _ S.inner ha.bl, ?_, ?_, ?_, ?_, ?_, S.l1, S.l2, S.k1, S.k2⟩⟩
  · obtain ⟨x, y, z, n, h⟩ := S.words
    exact ⟨x, y, z, n, q4 _ h ha.bw⟩
  · exact S.D1.keep (o := W.listOf #[] 0) q4 (lne S.D1.hd (by intro h; cases h)) (lne hx1 dc) (lne S.D1.hc (by rw [dict_cls S.D1.hcd]; exact dc)) (lne S.D1.hr (by rw [dict_cls S.D1.hrd]; exact dc))
  · exact S.D2.keep (o := W.listOf #[] 0) q4 (lne S.D2.hd (by intro h; cases h)) (lne hx2 dc) (lne S.D2.hc (by rw [dict_cls S.D2.hcd]; exact dc)) (lne S.D2.hr (by rw [dict_cls S.D2.hrd]; exact dc))
  · exact S.R1.keep q4 S.nd hb (by show (Value.type "list") ≠ .type "tuple"; decide)
  · exact S.R2.keep q4 S.nd hb (by show (Value.type "list") ≠ .type "tuple"; decide)
theorem off_cons {own nx : Led} {t : Addr} {o : Obj} (off : OwnOff own (nx.map (·.1))) (h : ∀ p ∈ own, p.1 < t) : OwnOff own (((t, o) :: nx).map (·.1)) := by
  intro p hp b hb
  rcases List.mem_cons.mp hb with rfl | hb
  · exact Nat.ne_of_lt (h p hp)
  · exact off p hp b hb
theorem fined_l1 {w : World} {mean : ExcName → Option Value} {mg mb : Str → Option Value} {nx own : Led} {a : Ad} {cnt : Int} {row1 row2 : Option Row} (now : Int) (word : Str) (tk tw tn : Tok) (S : LSt w nx a cnt row1 row2) (off : OwnOff own (nx.map (·.1))) (ha : AdOk a) (hw : IsWord word) (hok : RowOk now row1) :
    CtrL w mean mg mb 109 4 32 (nx ++ own) [.ref a.d1, .int 1 tk, .str word tw, .int now tn] (fun r news' => ∃ nx', news' = nx' ++ own ∧ OwnOff own (nx'.map (·.1)) ∧ LSt w nx' a cnt (some (finR a.C1 a.top1 (wAdd a.C1 word) row1 now)) row2 ∧ r = .bool (finR a.C1 a.top1 (wAdd a.C1 word) row1 now).out) := by
  obtain ⟨or1, or2, kv1, kv2, S⟩ := S
  obtain ⟨g, U, hg⟩ := led_upd S.D1.hr S.nd off
  have lw := ha.o1.word word
  refine Ctr.mono (fined_c 1 now (wAdd a.C1 word) word a.C1 row1 tk tw tn (S.D1.mono fun p hp => List.mem_append_left _ hp) U (S.R1.mono fun p hp => List.mem_append_left _ hp) hok ha.f1 ha.o1 (ha.f1.word hw) ⟨by omega, lw.2⟩ ha.t0) ?_
  rintro r n ⟨t, t1, t2, o', e1, e2, e3, e4⟩
  obtain ⟨nx', q1, q2, q3, q4⟩ := hg o'
  have hdc := dict_cls S.D1.hrd
  have ne : ∀ {x : Addr} {o : Obj}, (x, o) ∈ nx → o.cls ≠ .type "dict" → x ≠ a.r1 := fun h hc => ne_of_cls S.nd h S.D1.hr (by rw [hdc]; exact hc)
  have lc : (Value.type "list") ≠ .type "dict" := by decide
  have e3' : ∀ p ∈ nx' ++ own, p.1 < t := by rw [← q1]; exact e3
  have nd' : (((t, tupO [.int (finR a.C1 a.top1 (wAdd a.C1 word) row1 now).fine t1, .int now t2, .bool (finR a.C1 a.top1 (wAdd a.C1 word) row1 now).out]) :: nx').map (·.1)).Nodup := by
    refine List.nodup_cons.mpr ⟨fun hm => ?_, by rw [q2]; exact S.nd⟩
    obtain ⟨p, hp, ep⟩ := List.mem_map.mp hm
    exact Nat.lt_irrefl _ (ep ▸ e3' p (List.mem_append_left _ hp))
  obtain ⟨ts, nb, hb⟩ := S.box
  obtain ⟨x, y, z, n9, hwd⟩ := S.words
  have q5 : ∀ p ∈ nx, p.1 ≠ a.r1 → p ∈ (t, tupO [.int (finR a.C1 a.top1 (wAdd a.C1 word) row1 now).fine t1, .int now t2, .bool (finR a.C1 a.top1 (wAdd a.C1 word) row1 now).out]) :: nx' := fun p hp hn => .tail _ (q4 p hp hn)
  have kp := keys_put (v := .ref t) S.l1 S.k1
  refine ⟨(t, tupO [.int (finR a.C1 a.top1 (wAdd a.C1 word) row1 now).fine t1, .int now t2, .bool (finR a.C1 a.top1 (wAdd a.C1 word) row1 now).out]) :: nx', by rw [e1, q1]; rfl, off_cons (by rw [q2]; exact off) (fun p hp => e3' p (List.mem_append_right _ hp)), ⟨o', or2, stored kv1 1 (.ref t), kv2, ?_⟩, e4⟩
  refine ⟨nd', ⟨ts, nb, q5 _ hb (ne hb lc)⟩, q5 _ S.inner (ne S.inner lc), ⟨x, y, z, n9, q5 _ hwd (ne hwd lc)⟩, ?_, ?_, ?_, ?_, kp.1, S.l2, kp.2, S.k2⟩
  · exact S.D1.put q5 (ne S.D1.hd (by intro h; cases h)) ha.x1 ha.x2 (.tail _ q3) e2 (by have := kp.1; omega)
  · exact S.D2.keep (o := W.listOf #[] 0) q5 (ne S.D2.hd (by intro h; cases h)) ha.x3 ha.x4 ha.x5
  · exact ⟨t, t1, t2, val_put, .head _⟩
  · exact S.R2.keep q5 S.nd S.D1.hr (by rw [hdc]; decide)
theorem fined_l2 {w : World} {mean : ExcName → Option Value} {mg mb : Str → Option Value} {nx own : Led} {a : Ad} {cnt : Int} {row1 row2 : Option Row} (now : Int) (word : Str) (tk tw tn : Tok) (S : LSt w nx a cnt row1 row2) (off : OwnOff own (nx.map (·.1))) (ha : AdOk a) (hw : IsWord word) (hok : RowOk now row2) :
    CtrL w mean mg mb 109 4 32 (nx ++ own) [.ref a.d2, .int 1 tk, .str word tw, .int now tn] (fun r news' => ∃ nx', news' = nx' ++ own ∧ OwnOff own (nx'.map (·.1)) ∧ LSt w nx' a cnt row1 (some (finR a.C2 a.top2 (wAdd a.C2 word) row2 now)) ∧ r = .bool (finR a.C2 a.top2 (wAdd a.C2 word) row2 now).out) := by
  obtain ⟨or1, or2, kv1, kv2, S⟩ := S
  obtain ⟨g, U, hg⟩ := led_upd S.D2.hr S.nd off
  have lw := ha.o2.word word
  refine Ctr.mono (fined_c 1 now (wAdd a.C2 word) word a.C2 row2 tk tw tn (S.D2.mono fun p hp => List.mem_append_left _ hp) U (S.R2.mono fun p hp => List.mem_append_left _ hp) hok ha.f2 ha.o2 (ha.f2.word hw) ⟨by omega, lw.2⟩ (Int.le_trans ha.t0 ha.tt)) ?_
  rintro r n ⟨t, t1, t2, o', e1, e2, e3, e4⟩
  obtain ⟨nx', q1, q2, q3, q4⟩ := hg o'
  have hdc := dict_cls S.D2.hrd
  have ne : ∀ {x : Addr} {o : Obj}, (x, o) ∈ nx → o.cls ≠ .type "dict" → x ≠ a.r2 := fun h hc => ne_of_cls S.nd h S.D2.hr (by rw [hdc]; exact hc)
  have lc : (Value.type "list") ≠ .type "dict" := by decide
  have e3' : ∀ p ∈ nx' ++ own, p.1 < t := by rw [← q1]; exact e3
  have nd' : (((t, tupO [.int (finR a.C2 a.top2 (wAdd a.C2 word) row2 now).fine t1, .int now t2, .bool (finR a.C2 a.top2 (wAdd a.C2 word) row2 now).out]) :: nx').map (·.1)).Nodup := by
    refine List.nodup_cons.mpr ⟨fun hm => ?_, by rw [q2]; exact S.nd⟩
    obtain ⟨p, hp, ep⟩ := List.mem_map.mp hm
    exact Nat.lt_irrefl _ (ep ▸ e3' p (List.mem_append_left _ hp))
  obtain ⟨ts, nb, hb⟩ := S.box
  obtain ⟨x, y, z, n9, hwd⟩ := S.words
  have q5 : ∀ p ∈ nx, p.1 ≠ a.r2 → p ∈ (t, tupO [.int (finR a.C2 a.top2 (wAdd a.C2 word) row2 now).fine t1, .int now t2, .bool (finR a.C2 a.top2 (wAdd a.C2 word) row2 now).out]) :: nx' := fun p hp hn => .tail _ (q4 p hp hn)
  have kp := keys_put (v := .ref t) S.l2 S.k2
  refine ⟨(t, tupO [.int (finR a.C2 a.top2 (wAdd a.C2 word) row2 now).fine t1, .int now t2, .bool (finR a.C2 a.top2 (wAdd a.C2 word) row2 now).out]) :: nx', by rw [e1, q1]; rfl, off_cons (by rw [q2]; exact off) (fun p hp => e3' p (List.mem_append_right _ hp)), ⟨or1, o', kv1, stored kv2 1 (.ref t), ?_⟩, e4⟩
  refine ⟨nd', ⟨ts, nb, q5 _ hb (ne hb lc)⟩, q5 _ S.inner (ne S.inner lc), ⟨x, y, z, n9, q5 _ hwd (ne hwd lc)⟩, ?_, ?_, ?_, ?_, S.l1, kp.1, S.k1, kp.2⟩
  · exact S.D1.keep (o := W.listOf #[] 0) q5 (ne S.D1.hd (by intro h; cases h)) ha.y1 ha.y2 (Ne.symm ha.x5)
  · exact S.D2.put q5 (ne S.D2.hd (by intro h; cases h)) ha.y3 ha.y4 (.tail _ q3) e2 (by have := kp.1; omega)
  · exact S.R1.keep q5 S.nd S.D2.hr (by rw [hdc]; decide)
  · exact ⟨t, t1, t2, val_put, .head _⟩
theorem sterner_l {w : World} {mean : ExcName → Option Value} {mg mb : Str → Option Value} {nx own : Led} {a : Ad} {cnt k : Int} {row1 row2 : Option Row} (now : Int) (tn : Tok) (S : LSt w nx a cnt row1 row2) (ha : AdOk a) (hk : k < 1000) (hn : 0 ≤ now ∧ now < 500) (b1 : RowB k now row1) (b2 : RowB k now row2) (hv : Ov a.C1 a.C2 a.top1 row1 row2 now) :
    CtrL w mean mg mb 172 5 40 (nx ++ own) [.ref a.d1, .ref a.d2, .int now tn] (fun r news' => news' = nx ++ own ∧ r = .bool true) := by
  obtain ⟨or1, or2, kv1, kv2, S⟩ := S
  have i : ∀ p ∈ nx, p ∈ nx ++ own := fun p hp => List.mem_append_left _ hp
  exact is_sterner_c now a.C1 a.C2 row1 row2 tn (S.D1.mono i) (S.D2.mono i) (S.R1.mono i) (S.R2.mono i) (fun t h1 h2 => b1.ok hk hn.2 h1 (by omega)) (fun t h1 h2 => b2.ok hk hn.2 h1 (by omega)) ha.f1 ha.f2 ha.o1 ha.o2 ha.reuse hv.over ⟨hn.1, by omega⟩
theorem LSt.raw {w : World} {nx : Led} {a : Ad} {cnt : Int} {row1 row2 : Option Row} (S : LSt w nx a cnt row1 row2) : (a.d1, instObj 154 a.dx1) ∈ nx ∧ (a.d2, instObj 154 a.dx2) ∈ nx ∧
    (∃ x1 y1 x2 y2 x3 y3 y4, (a.dx1, dictOf [⟨x1, .str (Str.ofString "config") y1, .ref a.c1⟩, ⟨x2, .str (Str.ofString "rows") y2, .ref a.r1⟩, ⟨x3, .str (Str.ofString "top") y3, .int a.top1 y4⟩] 3) ∈ nx) ∧
    (∃ x1 y1 x2 y2 x3 y3 y4, (a.dx2, dictOf [⟨x1, .str (Str.ofString "config") y1, .ref a.c2⟩, ⟨x2, .str (Str.ofString "rows") y2, .ref a.r2⟩, ⟨x3, .str (Str.ofString "top") y3, .int a.top2 y4⟩] 3) ∈ nx) ∧
    (∃ x y z n, (a.lw, W.listOf [.str (Str.ofString "withdrawn") x, .str (Str.ofString "changed") y, .str (Str.ofString "again") z].toArray n) ∈ nx) :=
  let ⟨_, _, _, _, S⟩ := S
  ⟨S.D1.hd, S.D2.hd, S.D1.hx, S.D2.hx, S.words⟩
theorem alone_l {w : World} {mean : ExcName → Option Value} {mg mb : Str → Option Value} {nx own : Led} {a : Ad} {cnt k : Int} {row1 row2 : Option Row} (now : Int) (word : Str) (tk tw tn : Tok) (S : LSt w nx a cnt row1 row2) (off : OwnOff own (nx.map (·.1))) (ha : AdOk a) (hw : IsWord word) (b1 : RowB k now row1) (b2 : RowB k now row2) (ov : Ov a.C1 a.C2 a.top1 row1 row2 now) (hk : 0 ≤ k ∧ k < 900) (hn : 0 ≤ now ∧ now < 500) :
    CtrL w mean mg mb 109 4 32 (nx ++ own) [.ref a.d2, .int 1 tk, .str word tw, .int now tn] (fun r news' => ∃ nx' row2' bb, r = .bool bb ∧ news' = nx' ++ own ∧ OwnOff own (nx'.map (·.1)) ∧ LSt w nx' a cnt row1 row2' ∧ RowB (k + 1) now row1 ∧ RowB (k + 1) now row2' ∧ Ov a.C1 a.C2 a.top1 row1 row2' now) := by
  have h1 := ha.o1.half
  have h2 := ha.o2.half
  have w2 := ha.o2.word word
  have t0 := ha.t0
  have tt := ha.tt
  refine Ctr.mono (fined_l2 now word tk tw tn S off ha hw (b2.ok (by omega) (by omega) (Int.le_refl _) (by omega))) ?_
  rintro r n ⟨nx', e1, o1, S1, e2⟩
  exact ⟨nx', _, _, e2, e1, o1, S1, b1.mono (by omega) (Int.le_refl _), finR_B b2 hk.1 (by omega) (by omega) ⟨by omega, w2.2⟩ hn.1, ov.alone b1 b2 (by omega) ha.half ha.reuse ha.tt w2.1 (by omega) (pen_nn b2 (by omega))⟩
theorem both_l {w : World} {mean : ExcName → Option Value} {mg mb : Str → Option Value} {nx own : Led} {a : Ad} {cnt k : Int} {row1 row2 : Option Row} (now : Int) (word : Str) (tk tw tn : Tok) (S : LSt w nx a cnt (some (finR a.C1 a.top1 (wAdd a.C1 word) row1 now)) row2) (off : OwnOff own (nx.map (·.1))) (ha : AdOk a) (hw : IsWord word) (b1 : RowB k now row1) (b2 : RowB k now row2) (ov : Ov a.C1 a.C2 a.top1 row1 row2 now) (hk : 0 ≤ k ∧ k < 900) (hn : 0 ≤ now ∧ now < 500) :
    CtrL w mean mg mb 109 4 32 (nx ++ own) [.ref a.d2, .int 1 tk, .str word tw, .int now tn] (fun r news' => ∃ nx' row1' row2' bb, r = .bool bb ∧ news' = nx' ++ own ∧ OwnOff own (nx'.map (·.1)) ∧ LSt w nx' a cnt row1' row2' ∧ RowB (k + 1) now row1' ∧ RowB (k + 1) now row2' ∧ Ov a.C1 a.C2 a.top1 row1' row2' now ∧ ((finR a.C1 a.top1 (wAdd a.C1 word) row1 now).out = true → bb = true)) := by
  have h1 := ha.o1.half
  have h2 := ha.o2.half
  have w1 := ha.o1.word word
  have w2 := ha.o2.word word
  have t0 := ha.t0
  have tt := ha.tt
  refine Ctr.mono (fined_l2 now word tk tw tn S off ha hw (b2.ok (by omega) (by omega) (Int.le_refl _) (by omega))) ?_
  rintro r n ⟨nx', e1, o1, S1, e2⟩
  have v := ov.both (by omega) ha.half ha.reuse ha.supp ha.tt (ha.add word)
  exact ⟨nx', _, _, _, e2, e1, o1, S1, finR_B b1 hk.1 (by omega) ha.t0 ⟨by omega, w1.2⟩ hn.1, finR_B b2 hk.1 (by omega) (by omega) ⟨by omega, w2.2⟩ hn.1, v.1, v.2⟩
def lawStmt : Stmt := (PySem.Challenge.pw_sj0173_02.main.body.getLast?).getD (.Pass ⟨0, 0, 0, 0⟩)
def bodyOf : Stmt → List Stmt
  | .FunctionDef _ _ b _ _ _ _ _ _ _ => b
  | _ => []
def scopeOf : Stmt → Scope
  | .FunctionDef _ _ _ _ _ _ s _ _ _ => s
  | _ => default
abbrev lawScope : Scope := scopeOf lawStmt
abbrev lawBody : List Stmt := bodyOf lawStmt
theorem map_in {m : Str → Option Value} {x : Str} {v : Value} (h : m x = some v) : m = fun y => if y = x then some v else m y := by
  funext y
  by_cases e : y = x
  · rw [if_pos e, e, h]
  · rw [if_neg e]
/-- the loop's word -/
structure TailJ (w : World) (a : Ad) (sp : Int) (i : Nat) (m : Str → Option Value) (nx : Led) (now : Int) (tn tsp : Tok) (cnt : Int) (row1 row2 : Option Row) : Prop where
  m1 : m (Str.ofString "box") = some (.ref a.b)
  m2 : m (Str.ofString "mild") = some (.ref a.d1)
  m3 : m (Str.ofString "hard") = some (.ref a.d2)
  m4 : m (Str.ofString "words") = some (.ref a.lw)
  m5 : m (Str.ofString "spot") = some (.int sp tsp)
  m6 : m (Str.ofString "now") = some (.int now tn)
  S : LSt w nx a cnt row1 row2
  hc : 0 ≤ cnt ∧ cnt ≤ 10 + 5 * i
  hn : 0 ≤ now ∧ now ≤ 10 * i
  b1 : RowB (2 * i) now row1
  b2 : RowB (2 * i) now row2
  ov : Ov a.C1 a.C2 a.top1 row1 row2 now
def TailI (w : World) (a : Ad) (sp : Int) (i : Nat) (m : Str → Option Value) (nx : Led) : Prop := ∃ now tn tsp cnt row1 row2, TailJ w a sp i m nx now tn tsp cnt row1 row2
theorem TailJ.map {w : World} {a : Ad} {sp : Int} {i : Nat} {m : Str → Option Value} {nx : Led} {now : Int} {tn tsp : Tok} {cnt : Int} {row1 row2 : Option Row} (J : TailJ w a sp i m nx now tn tsp cnt row1 row2) :
    m = fun y => if y = Str.ofString "box" then some (.ref a.b) else if y = Str.ofString "mild" then some (.ref a.d1) else if y = Str.ofString "hard" then some (.ref a.d2) else if y = Str.ofString "words" then some (.ref a.lw) else if y = Str.ofString "spot" then some (.int sp tsp) else if y = Str.ofString "now" then some (.int now tn) else m y := by
  funext y
  by_cases e1 : y = Str.ofString "box"
  · rw [if_pos e1, e1, J.m1]
  · rw [if_neg e1]
    by_cases e2 : y = Str.ofString "mild"
    · rw [if_pos e2, e2, J.m2]
    · rw [if_neg e2]
      by_cases e3 : y = Str.ofString "hard"
      · rw [if_pos e3, e3, J.m3]
      · rw [if_neg e3]
        by_cases e4 : y = Str.ofString "words"
        · rw [if_pos e4, e4, J.m4]
        · rw [if_neg e4]
          by_cases e5 : y = Str.ofString "spot"
          · rw [if_pos e5, e5, J.m5]
          · rw [if_neg e5]
            by_cases e6 : y = Str.ofString "now"
            · rw [if_pos e6, e6, J.m6]
            · rw [if_neg e6]
theorem law_tail {w : World} {mean : ExcName → Option Value} {mg mb : Str → Option Value} {h₀ : Heap} {L fa cc : Addr} {s0 : Shared} {Q : Flow → Shared → Prop} {E' : Value → Shared → Prop} {a : Ad} {m : Str → Option Value} {nx : Led} (sp : Int)
    (B : Below callerA h₀ [] h₀) (F : Fr h₀ L s0.heap m) (X : (hd2.heap_39 w.params).In h₀) (N : News h₀ L s0.heap nx) (T : Top hd2.view_39 (looseW hd2.view_39 []) mean mg mb h₀) (ha : AdOk a) (hI : TailI w a sp 0 m nx)
    (ret : ∀ h' tk' m', Fr h₀ L h' m' → Q (.ret (.bool true)) { s0 with heap := h', toks := tk' }) :
    wpAny (model PySem.Challenge.rw_sj0173_02.row.prog w) (callerA.deeper (envOf (Str.ofString "law") lawScope L fa (.ref cc))) (execs (lawBody.drop 9) (envOf (Str.ofString "law") lawScope L fa (.ref cc))) Q
      (fun e s' => wpAny (model PySem.Challenge.rw_sj0173_02.row.prog w) (callerA.deeper (envOf (Str.ofString "law") lawScope L fa (.ref cc))) (leaving (envOf (Str.ofString "law") lawScope L fa (.ref cc)) e) (fun _ s'' => E' e s'') (fun e' s'' => E' e' s'') s') s0 := by
  (k_with_none; (k_with "my updF" => (first | assumption | exact UpdF.tail (my_ne (by assumption) (by assumption)) (by assumption))); (k_with "my upd" => (exact updF_upd (by assumption) _)); (k_with "my mem" => (first | exact updF_new (by assumption) _ | exact updF_old (by assumption) (by assumption) (by assumption) | (refine List.mem_cons_of_mem _ ?_; k_mem) | (refine List.mem_append_right _ ?_; k_mem))); (k_with "my islist" => (exact News.isList (by k_asm) (by k_mem))); (k_with "my fact" => (first | assumption | trivial | omega | (refine ⟨?_, ?_⟩ <;> omega) | ((try dsimp only); first | assumption | omega | l_fact))); (k_with "compareOp NotIn int ref" => ((k_here; k_dflt (refine my_notin (by k_asm) (by k_mem) (by k_asm) (by k_asm) _ (by assumption) ?_); (try dsimp only [Bool.not_true, Bool.not_false])))); (k_with "compareOp In int ref" => ((k_here; k_dflt (refine my_in (by k_asm) (by k_mem) (by k_asm) (by k_asm) _ (by assumption) ?_); (try dsimp only)))); (k_with "subscriptTail" => ((k_here; k_dflt (first
  | ((with_reducible show wpAny _ _ (subscriptTail _ _ (Value.ref _) (Value.str _ _)) _ _ _); refine kda_item (knd := PySem.strKind _ _) (by k_asm) (by k_mem) (by k_asm) (strKind_is _ _ _ _) (by assumption) ?_; (try dsimp only))
  | ((with_reducible show wpAny _ _ (subscriptTail _ _ (Value.ref _) (Value.int _ _)) _ _ _); refine kda_item (knd := PySem.intKind _ _) (by k_asm) (by k_mem) (by k_asm) (intKind_is _ _ _ _) (by assumption) ?_; (try dsimp only)))))); (k_with "call builtin:min" => ((k_here; (with_reducible show wpAny _ _ (call (Value.builtin _) [Value.int _ _, Value.int _ _, Value.int _ _]) _ _ _); (with_unfolding_all refine my_min3 (by with_unfolding_all rfl) (by k_asm) (by k_asm) ?_); k_whole); intro v9 t9 h9 tk9 c9 F9 N9; (have d9 := c9 (by omega)); clear c9; (try dsimp only))); (k_with "setItem ref int" => ((k_here; (with_reducible show wpAny _ _ (setItem (Value.ref _) (Value.int _ _) (Value.ref _)) _ _ _); k_dflt (refine kda_set (knd := PySem.intKind _ _) (by k_asm) (by k_asm) (by k_updF) (by k_asm) (intKind_is _ _ _ _) (by rw [sizeLine_eq]; omega) ?_)); intro h9 o9 F9 N9 hd9; (try dsimp only at N9); (try dsimp only))); (k_with "my sub" => (intro p9 hp9; repeat (first | exact hp9 | assumption | refine List.mem_cons_of_mem _ ?_ | refine List.mem_append_right _ ?_))); (k_with "subscriptTail" => ((k_here; (with_reducible show wpAny _ _ (subscriptTail _ _ (Value.ref _) (Value.int _ _)) _ _ _); k_dflt (refine my_word (by k_asm) (by k_mem) (by omega) (by omega) ?_); intro x9 t9 w9; (try dsimp only)))); (k_with "call ref" => ((k_here; (with_reducible show wpAny _ _ (call (Value.ref 165) _) _ _ _); k_dflt (refine Ctr.use9 (by k_asm) (by k_asm) (by k_asm) (by k_asm) (by k_asm) (by first | exact rfl | assumption) (by ktr_room) (by first | ktr_units | exact Nat.le_of_ble_eq_true rfl) (draw_l _ _ (by assumption) (by assumption) (by assumption) (by walk_at "my fact") (by walk_at "my fact")) ?_); k_whole); intro r9 n9 h9 tk9 F9 N9 P9; obtain ⟨v9, t9, y9, e8, lo9, hi9, e9, o9, S9⟩ := P9; subst e8; subst e9; (obtain ⟨i9, j9, ⟨x11, x12, x13, x14, x15, x16, x17, k9⟩, ⟨x21, x22, x23, x24, x25, x26, x27, l9⟩, ⟨x31, x32, x33, x34, m9⟩⟩ := S9.raw); (try dsimp only); (try k_fold))); (k_with "call ref" => ((k_here; (with_reducible show wpAny _ _ (call (Value.ref 109) _) _ _ _); refine Stop.mk ?_))); (k_with "call ref" => ((k_here; (with_reducible show wpAny _ _ (call (Value.ref 172) _) _ _ _); refine Stop.mk ?_))); (k_with "exec For Name Call cons nil" => ((k_here; (rename Fr _ _ _ _ => lF9); (with_unfolding_all refine For_invVF lF9 (by exact rfl) (by exact rfl) ?_); k_whole))); (k_with "pyIter ref" => (refine Stop.mk ?_)))
  revert X
  k_fill
  intro X
  simp only [lawBody, lawScope, lawStmt, bodyOf, scopeOf, PySem.Challenge.pw_sj0173_02, List.getLast?_cons_cons, List.getLast?_singleton, Option.getD_some, List.drop_succ_cons, List.drop_zero]
  (try k_fold)
  k_steps
  refine Stop.go ?_
  (rename Fr _ _ _ _ => lF)
  (rename News _ _ _ _ => lN)
  (rename IsRange _ _ _ _ _ _ _ _ => lR)
  refine my_range (n := 5) (nx₀ := nx) (TailI w a sp) rfl lR (by decide) (by rfl) lF lN (fun _ q => q) hI ?_ ?_
  · clear lF lN lR hI
    rintro i ti m1 nx1 h1 tk1 own hi off ⟨now, tn, tsp, cnt, row1, row2, J⟩ F1 N1
    rw [J.map] at F1
    have S := J.S
    have hc := J.hc
    have hn := J.hn
    have b1 := J.b1
    have b2 := J.b2
    have ov := J.ov
    obtain ⟨i9, j9, ⟨x11, x12, x13, x14, x15, x16, x17, k9⟩, ⟨x21, x22, x23, x24, x25, x26, x27, l9⟩, ⟨x31, x32, x33, x34, m9⟩⟩ := S.raw
    (try dsimp only)
    (try k_fold)
    k_steps
    · refine Stop.go ?_
      refine' Ctr.use (alone_l _ _ _ _ _ ?cS ?cO ?cA ?cW ?c1 ?c2 ?c3 ?c4 ?c5) ?kB ?kF ?kX ?kN ?kT ?kk ?kd ?ku ?_; (case kB => k_asm); (case kF => k_asm); (case kX => k_asm); (case kN => k_asm); (case kT => k_asm); (case kk => first | exact rfl | assumption); (case kd => ktr_room); (case ku => first | ktr_units | exact Nat.le_of_ble_eq_true rfl)
      (case cS => assumption); (case cO => assumption); (case cA => assumption); (case cW => assumption)
      (case c1 => exact b1.mono (Int.le_refl _) (by omega)); (case c2 => exact b2.mono (Int.le_refl _) (by omega)); (case c3 => exact ov.later (by omega)); (case c4 => omega); (case c5 => omega)
      intro r9 n9 h9 tk9 F9 N9 P9
      obtain ⟨y9, row2', bb, e8, e9, o9, S9, b1', b2', ov'⟩ := P9
      subst e8; subst e9
      (obtain ⟨i9, j9, ⟨x11, x12, x13, x14, x15, x16, x17, k9⟩, ⟨x21, x22, x23, x24, x25, x26, x27, l9⟩, ⟨x31, x32, x33, x34, m9⟩⟩ := S9.raw)
      (try dsimp only)
      (try k_fold)
      k_steps
      refine Stop.go ?_
      refine' Ctr.use (sterner_l (k := 2 * (i : Int) + 1) _ _ ?cS ?cA ?ck ?cn ?cb1 ?cb2 ?cV) ?kB ?kF ?kX ?kN ?kT ?kk ?kd ?ku ?_; (case kB => k_asm); (case kF => k_asm); (case kX => k_asm); (case kN => k_asm); (case kT => k_asm); (case kk => first | exact rfl | assumption); (case kd => ktr_room); (case ku => first | ktr_units | exact Nat.le_of_ble_eq_true rfl)
      (case cS => assumption); (case cA => assumption); (case ck => omega); (case cn => omega); (case cb1 => exact b1'); (case cb2 => exact b2'); (case cV => exact ov')
      intro r9 n9 h9 tk9 F9 N9 P9
      obtain ⟨e9, e8⟩ := P9
      subst e8; subst e9
      (try dsimp only)
      (try k_fold)
      k_steps
      refine Stop.go ?_
      refine' Ctr.use (fined_l1 _ _ _ _ _ ?cS ?cO ?cA ?cW ?c1) ?kB ?kF ?kX ?kN ?kT ?kk ?kd ?ku ?_; (case kB => k_asm); (case kF => k_asm); (case kX => k_asm); (case kN => k_asm); (case kT => k_asm); (case kk => first | exact rfl | assumption); (case kd => ktr_room); (case ku => first | ktr_units | exact Nat.le_of_ble_eq_true rfl)
      (case cS => assumption); (case cO => assumption); (case cA => assumption); (case cW => assumption); (case c1 => exact RowB.ok b1' (by omega) (by omega) (by omega) (by omega))
      intro r9 n9 h9 tk9 F9 N9 P9
      obtain ⟨y9, e9, o9, S9, e8⟩ := P9
      subst e8; subst e9
      (obtain ⟨i9, j9, ⟨x11, x12, x13, x14, x15, x16, x17, k9⟩, ⟨x21, x22, x23, x24, x25, x26, x27, l9⟩, ⟨x31, x32, x33, x34, m9⟩⟩ := S9.raw)
      (try dsimp only)
      (try k_fold)
      k_steps
      refine Stop.go ?_
      refine' Ctr.use (both_l (row1 := row1) (row2 := row2') (k := 2 * (i : Int) + 1) _ _ _ _ _ ?cS ?cO ?cA ?cW ?c1 ?c2 ?c3 ?c4 ?c5) ?kB ?kF ?kX ?kN ?kT ?kk ?kd ?ku ?_; (case kB => k_asm); (case kF => k_asm); (case kX => k_asm); (case kN => k_asm); (case kT => k_asm); (case kk => first | exact rfl | assumption); (case kd => ktr_room); (case ku => first | ktr_units | exact Nat.le_of_ble_eq_true rfl)
      (case cS => assumption); (case cO => assumption); (case cA => assumption); (case cW => assumption)
      (case c1 => exact RowB.mono b1' (Int.le_refl _) (by omega)); (case c2 => exact RowB.mono b2' (Int.le_refl _) (by omega)); (case c3 => exact Ov.later ov' (by omega)); (case c4 => omega); (case c5 => omega)
      intro r9 n9 h9 tk9 F9 N9 P9
      obtain ⟨z9, row1'', row2'', bb2, e8, e9, o9, S9, b1'', b2'', ov'', imp⟩ := P9
      subst e8; subst e9
      (obtain ⟨i9, j9, ⟨x11, x12, x13, x14, x15, x16, x17, k9⟩, ⟨x21, x22, x23, x24, x25, x26, x27, l9⟩, ⟨x31, x32, x33, x34, m9⟩⟩ := S9.raw)
      (try dsimp only)
      (try k_fold)
      k_steps
      all_goals first
        | (exfalso; simp_all; done)
        | (refine Stop.go ?_
           (rename News _ _ _ _ => lN9)
           have lN8 := cb_drop (news := z9 ++ own) lN9 (fun q hq => List.mem_cons_of_mem _ hq)
           clear lN9
           refine' Ctr.use (sterner_l (k := 2 * (i : Int) + 1 + 1) _ _ ?cS ?cA ?ck ?cn ?cb1 ?cb2 ?cV) ?kB ?kF ?kX ?kN ?kT ?kk ?kd ?ku ?_; (case kB => k_asm); (case kF => k_asm); (case kX => k_asm); (case kN => k_asm); (case kT => k_asm); (case kk => first | exact rfl | assumption); (case kd => ktr_room); (case ku => first | ktr_units | exact Nat.le_of_ble_eq_true rfl)
           (case cS => assumption); (case cA => assumption); (case ck => omega); (case cn => omega); (case cb1 => exact b1''); (case cb2 => exact b2''); (case cV => exact ov'')
           intro r9 n9 h9 tk9 F9 N9 P9
           obtain ⟨e9, e8⟩ := P9
           subst e8; subst e9
           (try dsimp only)
           (try k_fold)
           k_steps
           exact ⟨_, _, _, _, z9, rfl, by k_asm, by k_asm, fun p hp => List.mem_append_left _ hp, fun p hp => List.mem_append_right _ hp, o9, _, _, _, _, row1'', row2'', rfl, rfl, rfl, rfl, rfl, rfl, S9, by omega, by omega, RowB.mono b1'' (by omega) (Int.le_refl _), RowB.mono b2'' (by omega) (Int.le_refl _), ov''⟩)
    · refine Stop.go ?_
      refine' Ctr.use (fined_l1 _ _ _ _ _ ?cS ?cO ?cA ?cW ?c1) ?kB ?kF ?kX ?kN ?kT ?kk ?kd ?ku ?_; (case kB => k_asm); (case kF => k_asm); (case kX => k_asm); (case kN => k_asm); (case kT => k_asm); (case kk => first | exact rfl | assumption); (case kd => ktr_room); (case ku => first | ktr_units | exact Nat.le_of_ble_eq_true rfl)
      (case cS => assumption); (case cO => assumption); (case cA => assumption); (case cW => assumption); (case c1 => exact RowB.ok b1 (by omega) (by omega) (by omega) (by omega))
      intro r9 n9 h9 tk9 F9 N9 P9
      obtain ⟨y9, e9, o9, S9, e8⟩ := P9
      subst e8; subst e9
      (obtain ⟨i9, j9, ⟨x11, x12, x13, x14, x15, x16, x17, k9⟩, ⟨x21, x22, x23, x24, x25, x26, x27, l9⟩, ⟨x31, x32, x33, x34, m9⟩⟩ := S9.raw)
      (try dsimp only)
      (try k_fold)
      k_steps
      refine Stop.go ?_
      refine' Ctr.use (both_l (row1 := row1) (row2 := row2) (k := 2 * (i : Int)) _ _ _ _ _ ?cS ?cO ?cA ?cW ?c1 ?c2 ?c3 ?c4 ?c5) ?kB ?kF ?kX ?kN ?kT ?kk ?kd ?ku ?_; (case kB => k_asm); (case kF => k_asm); (case kX => k_asm); (case kN => k_asm); (case kT => k_asm); (case kk => first | exact rfl | assumption); (case kd => ktr_room); (case ku => first | ktr_units | exact Nat.le_of_ble_eq_true rfl)
      (case cS => assumption); (case cO => assumption); (case cA => assumption); (case cW => assumption)
      (case c1 => exact RowB.mono b1 (Int.le_refl _) (by omega)); (case c2 => exact RowB.mono b2 (Int.le_refl _) (by omega)); (case c3 => exact Ov.later ov (by omega)); (case c4 => omega); (case c5 => omega)
      intro r9 n9 h9 tk9 F9 N9 P9
      obtain ⟨z9, row1'', row2'', bb2, e8, e9, o9, S9, b1'', b2'', ov'', imp⟩ := P9
      subst e8; subst e9
      (obtain ⟨i9, j9, ⟨x11, x12, x13, x14, x15, x16, x17, k9⟩, ⟨x21, x22, x23, x24, x25, x26, x27, l9⟩, ⟨x31, x32, x33, x34, m9⟩⟩ := S9.raw)
      (try dsimp only)
      (try k_fold)
      k_steps
      all_goals first
        | (exfalso; simp_all; done)
        | (refine Stop.go ?_
           (rename News _ _ _ _ => lN9)
           have lN8 := cb_drop (news := z9 ++ own) lN9 (fun q hq => List.mem_cons_of_mem _ hq)
           clear lN9
           refine' Ctr.use (sterner_l (k := 2 * (i : Int) + 1) _ _ ?cS ?cA ?ck ?cn ?cb1 ?cb2 ?cV) ?kB ?kF ?kX ?kN ?kT ?kk ?kd ?ku ?_; (case kB => k_asm); (case kF => k_asm); (case kX => k_asm); (case kN => k_asm); (case kT => k_asm); (case kk => first | exact rfl | assumption); (case kd => ktr_room); (case ku => first | ktr_units | exact Nat.le_of_ble_eq_true rfl)
           (case cS => assumption); (case cA => assumption); (case ck => omega); (case cn => omega); (case cb1 => exact b1''); (case cb2 => exact b2''); (case cV => exact ov'')
           intro r9 n9 h9 tk9 F9 N9 P9
           obtain ⟨e9, e8⟩ := P9
           subst e8; subst e9
           (try dsimp only)
           (try k_fold)
           k_steps
           exact ⟨_, _, _, _, z9, rfl, by k_asm, by k_asm, fun p hp => List.mem_append_left _ hp, fun p hp => List.mem_append_right _ hp, o9, _, _, _, _, row1'', row2'', rfl, rfl, rfl, rfl, rfl, rfl, S9, by omega, by omega, RowB.mono b1'' (by omega) (Int.le_refl _), RowB.mono b2'' (by omega) (Int.le_refl _), ov''⟩)
  · clear lF lN lR
    intro m1 nx1 h1 tk1 J F1 N1
    (try dsimp only)
    k_steps
    exact ret _ _ _ (by k_asm)
section
variable {prog : Program} {w : World} {A : Around} {E : Value → Shared → Prop} {s : Shared}
theorem keys_miss : typeLookup (.type "list") (Str.ofString "keys") = pure none := am_miss_of_fast (by decide +kernel)
theorem list_no_keys {a : Addr} {xs : List Value} {k : Nat} {Q : Option Value → Shared → Prop} (hx : s.heap.get? a = some (W.listOf xs.toArray k)) (hA : A.handled = none)
    (h : ∀ h' tk, (∀ b o, s.heap.get? b = some o → h'.get? b = some o) → Q none { s with heap := h', toks := tk }) :
    wpAny (model prog w) A (getAttr? (.ref a) "keys") Q E s := by
  obtain ⟨hp, g, d, tk, os⟩ := s
  have hT : ∀ tk', (⟨hp, g, d, tk', os⟩ : Shared).TypeIs (.ref a) "list" := fun _ => ⟨_, hx, rfl⟩
  have f1 := sub_AttributeError
  have f3 := F.slot_list_getattribute.lookup
  have f4 := F.slot_list_getattribute.bind (.ref a)
  have f5 := am_list_getattr_none
  unfold getAttr? getAttrBy? getAttrBy
  repeat (any_goals (first | assumption | exact hT _ | ((with_reducible show wpAny _ _ (call (Value.builtin "list.__getattribute__") _ _) _ _ _); refine call_meets F.slot_list_getattribute (hT _) am_entry_list_getattribute (F.args_list_getattribute_2 _ _) (meets_getattribute_miss_list a xs.toArray k #[] "keys" _ keys_miss (by decide)) ⟨hx, hA, fun h' tk' e hx' => ?_⟩) | wp_step))
  obtain ⟨t', u', he⟩ := hx'.there
  show wpAny _ _ (getattributeRaised _ _ _ _ _ _ _) _ _ _
  unfold getattributeRaised
  repeat (any_goals (first | assumption | wp_step))
  exact h _ _ hx'.keeps
theorem len_putS {kvs : List (Str × Value)} {k : Str} {v : Value} : (stored kvs k v).length ≤ kvs.length + 1 := by
  unfold stored
  split
  · simp
  · simp
theorem upd_entry : entryFor table "dict.update.loop" = some Builtin.«dict.update.loop» := entryFor_of_tree (by kernel_rfl)
theorem upd_plain : plainId "dict.update.loop" = true := by decide +kernel
theorem upd_loop {R : Result → Shared → Prop} {d I lo : Addr} {vs : List Value} {ps : List (Str × Value)} (hh : A.handled = none) (hlo : lo ≠ I) (hdI : d ≠ I) (hdl : d ≠ lo) (hn : vs.length = ps.length) (hz : ps.length ≤ 100) :
    ∀ (k i : Nat) (s : Shared) (acc : List (Str × Value)), ps.length - i = k → i ≤ ps.length → s.heap.IsListIter I lo i → s.heap.IsList lo vs.toArray → s.heap.DictOf (PySem.strKind prog w) d acc → acc.length ≤ i →
      (∀ (j : Nat) (kv : Str × Value), ps[j]? = some kv → ∃ t tk, vs[j]? = some (.ref t) ∧ t ≠ d ∧ t ≠ I ∧ s.heap.get? t = some (tupO [.str kv.1 tk, kv.2])) →
      (∀ h' tk', h'.DictOf (PySem.strKind prog w) d ((ps.drop i).foldl (fun a q => stored a q.1 q.2) acc) → (∀ b o, b ≠ d → b ≠ I → s.heap.get? b = some o → h'.get? b = some o) → R (.ok (.ret .none)) { s with heap := h', toks := tk' }) →
      codeAny (model prog w) A (.builtin "dict.update.loop" ⟨[.ref d, .ref I, rawInt i, .none], []⟩) R s := by
  have W := Walks.list (prog := prog) (w := w) (A := A.in1) hh I lo hlo vs.toArray
  have hsz : vs.toArray.size = ps.length := by simp [hn]
  intro k
  induction k with
  | zero =>
    intro i s acc hk hi hit hl hd hacc hts hR
    have hin : i = ps.length := by omega
    refine codeAny_builtin upd_entry ?_
    rw [Around.under_plainId upd_plain _]
    show wpAny _ A.in1 (pyNext (.ref I) >>= _) _ _ s
    refine wpAny_bind (W.done s _ _ (by rw [hsz, ← hin]; exact ⟨hit, hl⟩) fun h' tk' hk' => ?_)
    have hd' : h'.DictOf (PySem.strKind prog w) d acc := hd.at fun o e => hk' d o (by simpa using hdI) e
    refine wpAny_bind (wpAny_pure (wpAny_pure (hR h' tk' ?_ fun b o _ hb e => hk' b o (by simpa using hb) e)))
    rw [hin, List.drop_length]
    exact hd'
  | succ k ih =>
    intro i s acc hk hi hit hl hd hacc hts hR
    have hlt : i < ps.length := by omega
    refine codeAny_builtin upd_entry ?_
    rw [Around.under_plainId upd_plain _]
    show wpAny _ A.in1 (pyNext (.ref I) >>= _) _ _ s
    refine wpAny_bind (W.item i s _ _ (by rw [hsz]; exact hlt) ⟨hit, hl⟩ fun v h' tk' hP hst hk' => ?_)
    obtain ⟨kv, hkv⟩ : ∃ kv, ps[i]? = some kv := ⟨ps[i], List.getElem?_eq_getElem hlt⟩
    obtain ⟨t, tk, hv, htd, htI, hto⟩ := hts i kv hkv
    have ev : v = .ref t := by
      have hP' : vs[i]? = some v := by simpa using hP
      rw [hv] at hP'
      exact (Option.some.inj hP').symm
    subst ev
    have hto' : h'.get? t = some (tupO [.str kv.1 tk, kv.2]) := hk' t _ (by simpa using htI) hto
    have hd' : h'.DictOf (PySem.strKind prog w) d acc := hd.at fun o e => hk' d o (by simpa using hdI) e
    refine wpAny_bind (wpAny_holding ?_)
    refine wpAny_bind (m := (Builtin.Dict.pairItems (.ref t)).tryCatch _) (wpAny_tryCatch ?_)
    unfold Builtin.Dict.pairItems
    refine wpAny_bind (wpAny_typeOf (show (Shared.mk h' s.gens s.drawn tk' s.os).TypeIs (.ref t) "tuple" from ⟨_, hto', rfl⟩) ?_)
    rw [if_pos (by decide)]
    refine wpAny_bind (wpAny_seqItems hto' rfl (wpAny_pure ?_))
    show wpAny _ _ (holding [.str kv.1 tk, kv.2] (dictSet d (.str kv.1 tk) kv.2)) _ _ _
    refine wpAny_holding (wpAny_dictSet_pairs (strKind_is _ _ _ _) hd' (fun h'' hd'' hs'' => ?_) (by rw [sizeLine_eq]; omega))
    refine wpAny_pure ⟨plainId_quiet upd_plain _, ?_⟩
    have e1 : rawInt ((i : Int) + 1) = rawInt ((i + 1 : Nat) : Int) := by norm_cast
    rw [e1]
    have step : ∀ b o, b ≠ d → b ≠ I → s.heap.get? b = some o → h''.get? b = some o := fun b o hbd hbI e => (hs''.2 b hbd).trans (hk' b o (by simpa using hbI) e)
    refine ih (i + 1) { s with heap := h'', toks := tk' + 1 } (stored acc kv.1 kv.2) (by omega) hlt ?_ ?_ hd'' ?_ ?_ ?_
    · exact hst.1.at fun o e => (hs''.2 I (Ne.symm hdI)).trans e
    · exact hst.2.at fun o e => (hs''.2 lo (Ne.symm hdl)).trans e
    · have := len_putS (kvs := acc) (k := kv.1) (v := kv.2); omega
    · intro j kv' hj
      obtain ⟨t2, tk2, q1, q2, q3, q4⟩ := hts j kv' hj
      exact ⟨t2, tk2, q1, q2, q3, step t2 _ q2 q3 q4⟩
    · intro h3 tk3 hd3 hk3
      refine hR h3 tk3 ?_ fun b o hbd hbI e => hk3 b o hbd hbI (step b o hbd hbI e)
      have e2 : ps.drop i = kv :: ps.drop (i + 1) := by
        rw [List.drop_eq_getElem_cons hlt]
        congr 1
        rw [List.getElem?_eq_getElem hlt] at hkv
        exact Option.some.inj hkv
      rw [e2, List.foldl_cons]
      exact hd3
theorem foldl_stored : ∀ (more acc : List (Str × Value)), ((acc ++ more).map (·.1)).Nodup → more.foldl (fun a q => stored a q.1 q.2) acc = acc ++ more
  | [], acc, _ => by simp
  | q :: r, acc, h => by
    have e : stored acc q.1 q.2 = acc ++ [q] := by
      unfold stored
      rw [if_neg]
      intro hc
      obtain ⟨x, hx, ex⟩ := List.any_eq_true.mp hc
      simp only [List.map_append, List.map_cons] at h
      exact (List.nodup_append.mp h).2.2 x.1 (List.mem_map.mpr ⟨x, hx, rfl⟩) q.1 (.head _) (of_decide_eq_true ex)
    rw [List.foldl_cons, e, foldl_stored r (acc ++ [q]) (by simpa using h)]
    simp
theorem call_dict_pairs {lo : Addr} {vs : List Value} {n : Nat} {ps : List (Str × Value)} {Q : Value → Shared → Prop} (hh : A.handled = none) (hl : s.heap.get? lo = some (W.listOf vs.toArray n)) (hn : vs.length = ps.length) (hz : ps.length ≤ 100) (hk : (ps.map (·.1)).Nodup)
    (hts : ∀ (j : Nat) (kv : Str × Value), ps[j]? = some kv → ∃ t tk, vs[j]? = some (.ref t) ∧ s.heap.get? t = some (tupO [.str kv.1 tk, kv.2]))
    (h : ∀ h' tk', h'.DictOf (PySem.strKind prog w) s.heap.objs.size ps → (∀ b o, s.heap.get? b = some o → h'.get? b = some o) → Q (.ref s.heap.objs.size) { s with heap := h', toks := tk' }) :
    wpAny (model prog w) A (call (.type "dict") [.ref lo]) Q E s := by
  refine callType_codes (Q₁ := fun obj s₁ => obj = .ref s.heap.objs.size ∧ s₁ = { s with heap := s.heap.push { cls := .type "dict", data := .dict #[] } }) F.kt_called_dict (F.kt_typeCall_dict_1 _) F.entry_dict_init (kt_code_dict_new _ ⟨rfl, rfl⟩) ?_
  rintro obj s₁ ⟨rfl, rfl⟩
  have hnew : (s.heap.push { cls := .type "dict", data := .dict #[] }).DictOf (PySem.strKind prog w) s.heap.objs.size [] := Heap.DictOf.new s.heap
  have hl' : (s.heap.push { cls := .type "dict", data := .dict #[] }).get? lo = some (W.listOf vs.toArray n) := Heap.get?_push_of_some _ hl
  have hdl : s.heap.objs.size ≠ lo := Nat.ne_of_gt (Heap.lt_size hl)
  refine ⟨hnew.typeIs, F.args_dict_init_2 _ _, ?_⟩
  unfold Builtin.«dict.__init__»
  refine wpAny_bind ?_
  unfold Builtin.Dict.selfAndRest
  refine wpAny_bind (wpAny_notOrdered_dict hnew.typeIs ?_)
  show wpAny _ _ (pure (s.heap.objs.size, [Value.ref lo])) _ _ _
  refine wpAny_pure ?_
  show wpAny _ _ (Builtin.Dict.updateFrom "dict.__init__" s.heap.objs.size (.ref lo) [] .none) _ _ _
  unfold Builtin.Dict.updateFrom
  refine wpAny_bind (wpAny_typeOf (show (Shared.mk _ _ _ _ _).TypeIs (.ref lo) "list" from ⟨_, hl', rfl⟩) ?_)
  rw [if_pos (by decide)]
  refine wpAny_bind (list_no_keys hl' hh fun h1 tk1 hk1 => ?_)
  rw [if_pos (by rfl)]
  refine wpAny_bind (wpAny_rule ?_)
  have hl1 : h1.IsList lo vs.toArray := ⟨_, hk1 _ _ hl', rfl, n, rfl⟩
  refine wpAny_bind (wpAny_pyIter_list hl1 ?_)
  have hd1 : (h1.push { cls := .type "list_iterator", data := .fields #[.ref lo, rawInt 0] }).DictOf (PySem.strKind prog w) s.heap.objs.size [] := (hnew.at fun o e => hk1 _ o e).push _
  obtain ⟨od, _, _, god, _⟩ := hnew
  have hlt : s.heap.objs.size < h1.objs.size := Heap.lt_size (hk1 _ _ god)
  have hI : s.heap.objs.size ≠ h1.objs.size := Nat.ne_of_lt hlt
  have lI : lo ≠ h1.objs.size := Nat.ne_of_lt (Heap.lt_size (hk1 _ _ hl'))
  have up : ∀ b o, s.heap.get? b = some o → (h1.push { cls := .type "list_iterator", data := .fields #[.ref lo, rawInt 0] }).get? b = some o := fun b o e => Heap.get?_push_of_some _ (hk1 _ _ (Heap.get?_push_of_some _ e))
  refine wpAny_pure ⟨plainId_quiet upd_plain _, ?_⟩
  refine upd_loop (A := A.in1) (vs := vs) (ps := ps) hh lI hI hdl hn hz ps.length 0 _ [] (by omega) (by omega) ⟨_, Heap.get?_push_size _ rfl, rfl, rfl⟩ (hl1.at fun o e => Heap.get?_push_of_some _ e) hd1 (by simp) (fun j kv hj => ?_) (fun h' tk' hd' hk' => ?_)
  · obtain ⟨t, tk, q1, q2⟩ := hts j kv hj
    exact ⟨t, tk, q1, Nat.ne_of_lt (Heap.lt_size q2), Nat.ne_of_lt (Nat.lt_trans (Heap.lt_size q2) hlt), up _ _ q2⟩
  · rw [List.drop_zero, foldl_stored ps [] (by simpa using hk), List.nil_append] at hd'
    exact ⟨rfl, h h' tk' hd' fun b o e => hk' b o (Nat.ne_of_lt (Heap.lt_size e)) (Nat.ne_of_lt (Nat.lt_trans (Heap.lt_size e) hlt)) (up b o e)⟩
end
section
variable {prog : Program} {w : World} {A : Around} {E : Value → Shared → Prop} {s : Shared} {h₀ : Heap} {L : Addr} {m : Str → Option Value} {news : Led}
/-- a list of made pairs and what they are -/
def PairsIn (news : Led) : List Value → List (Str × Value) → Prop
  | [], [] => True
  | v :: vs, q :: ps => (∃ t tk, v = .ref t ∧ (t, tupO [.str q.1 tk, q.2]) ∈ news) ∧ PairsIn news vs ps
  | _, _ => False
theorem PairsIn.len {news : Led} : ∀ {vs : List Value} {ps : List (Str × Value)}, PairsIn news vs ps → vs.length = ps.length
  | [], [], _ => rfl
  | _ :: _, _ :: _, h => by simp [PairsIn.len h.2]
  | [], _ :: _, h => h.elim
  | _ :: _, [], h => h.elim
theorem PairsIn.get {news : Led} : ∀ {vs : List Value} {ps : List (Str × Value)}, PairsIn news vs ps → ∀ (j : Nat) (kv : Str × Value), ps[j]? = some kv → ∃ t tk, vs[j]? = some (.ref t) ∧ (t, tupO [.str kv.1 tk, kv.2]) ∈ news
  | v :: vs, q :: ps, h, 0, kv, e => by
    obtain ⟨⟨t, tk, rfl, hm⟩, _⟩ := h
    obtain rfl : q = kv := by simpa using e
    exact ⟨t, tk, rfl, hm⟩
  | v :: vs, q :: ps, h, j + 1, kv, e => by
    obtain ⟨t, tk, e1, hm⟩ := PairsIn.get h.2 j kv (by simpa using e)
    exact ⟨t, tk, by simpa using e1, hm⟩
  | [], [], _, _, _, e => by cases e
  | [], _ :: _, h, _, _, _ => h.elim
  | _ :: _, [], h, _, _, _ => h.elim
theorem dict_pairs_N {lo : Addr} {vs : List Value} {n : Nat} {ps : List (Str × Value)} {Q : Value → Shared → Prop} (hh : A.handled = none) (F : Fr h₀ L s.heap m) (N : News h₀ L s.heap news) (hbig : h₀.NoLimit) (hl : (lo, W.listOf vs.toArray n) ∈ news) (hp : PairsIn news vs ps) (hz : ps.length ≤ 100) (hk : (ps.map (·.1)).Nodup)
    (h : ∀ d h' o' tk', Fr h₀ L h' m → News h₀ L h' ((d, o') :: news) → (∀ p ∈ news, p.1 < d) → (d == sysModules) = false → o'.IsDictOf (PySem.strKind prog w) ps → Q (.ref d) { s with heap := h', toks := tk' }) :
    wpAny (model prog w) A (call (.type "dict") [.ref lo]) Q E s := by
  refine call_dict_pairs hh (N _ hl).1 hp.len hz hk (fun j kv hj => ?_) fun h' tk' hd hk' => ?_
  · obtain ⟨t, tk, e, hm⟩ := hp.get j kv hj
    exact ⟨t, tk, e, (N _ hm).1⟩
  · obtain ⟨o', ho', hd'⟩ := Heap.dictOf_iff.mp hd
    have N1 := News.push F N { cls := .type "dict", data := .dict #[] }
    refine h _ h' o' tk' (F.grownK hk') (fun p hp => ?_) (fun p hp => Heap.lt_size (N p hp).1) (F.notModules (modules_low hbig)) hd'
    rcases List.mem_cons.mp hp with rfl | hp
    · exact ⟨ho', (N1 _ (.head _)).2.1, N1.fresh (.head _)⟩
    · exact ⟨hk' _ _ (N p hp).1, (N p hp).2⟩
end
def IsKey (x : Str) : Prop := x = Str.ofString "most" ∨ x = Str.ofString "suppress" ∨ x = Str.ofString "withdrawn" ∨ x = Str.ofString "changed" ∨ x = Str.ofString "again"
theorem my_name {prog : Program} {w : World} {A : Around} {E : Value → Shared → Prop} {s : Shared} {h₀ : Heap} {L lw : Addr} {news : Led} {value slice : PySem.Expr} {a b c d e : Tok} {n : Nat} {k : Int} {u : Tok} {Q : Value → Shared → Prop} (N : News h₀ L s.heap news)
    (hm : (lw, W.listOf [.str (Str.ofString "most") a, .str (Str.ofString "suppress") b, .str (Str.ofString "withdrawn") c, .str (Str.ofString "changed") d, .str (Str.ofString "again") e].toArray n) ∈ news) (h0 : 0 ≤ k) (h5 : k < 5) (h : ∀ x t, IsKey x → Q (.str x t) s)
    (hs : subscripted slice false (.ref lw) (.int k u) = operate [.ref lw, .int k u] (getItem (.ref lw) (.int k u)) := by with_unfolding_all rfl) :
    wpAny (model prog w) A (subscriptTail value slice (.ref lw) (.int k u)) Q E s := by
  have hl := News.isList N hm
  have e : k = 0 ∨ k = 1 ∨ k = 2 ∨ k = 3 ∨ k = 4 := by omega
  rcases e with rfl | rfl | rfl | rfl | rfl
  · exact item_litK hl (by decide) (by decide) rfl (h _ _ (.inl rfl)) hs
  · exact item_litK hl (by decide) (by decide) rfl (h _ _ (.inr (.inl rfl))) hs
  · exact item_litK hl (by decide) (by decide) rfl (h _ _ (.inr (.inr (.inl rfl)))) hs
  · exact item_litK hl (by decide) (by decide) rfl (h _ _ (.inr (.inr (.inr (.inl rfl))))) hs
  · exact item_litK hl (by decide) (by decide) rfl (h _ _ (.inr (.inr (.inr (.inr rfl))))) hs
def keyV (C : Cfg) (x : Str) : Int := if x = Str.ofString "most" then C.most else if x = Str.ofString "suppress" then C.suppress else if x = Str.ofString "withdrawn" then C.wd else if x = Str.ofString "changed" then C.ch else C.ag
theorem CfgAt.key {kc : List (Str × Value)} {C : Cfg} (h : CfgAt kc C) {x : Str} (hx : IsKey x) : CfgIs kc x (keyV C x) := by
  rcases hx with rfl | rfl | rfl | rfl | rfl
  · exact h.most
  · exact h.suppress
  · exact h.wd
  · exact h.ch
  · exact h.ag
theorem str_put {kvs : List (Str × Value)} {k : Str} {v : Value} : valueAt (stored kvs k v) k = some v := by
  unfold valueAt stored
  split
  · rename_i h
    induction kvs with
    | nil => cases h
    | cons q r ih =>
      simp only [List.any_cons, Bool.or_eq_true, decide_eq_true_eq] at h
      by_cases e : q.1 = k
      · simp [e]
      · simp only [List.map_cons, if_neg e, List.find?_cons, decide_eq_false e]
        exact ih (by simpa [e] using h)
  · rename_i h
    simp only [List.any_eq_true, decide_eq_true_eq, not_exists, not_and] at h
    rw [List.find?_append, List.find?_eq_none.mpr (fun x hx => by simpa using h x hx)]
    simp
theorem str_put_ne {kvs : List (Str × Value)} {k j : Str} {v : Value} (hne : j ≠ k) : valueAt (stored kvs k v) j = valueAt kvs j := by
  unfold valueAt stored
  split
  · rename_i h
    clear h
    induction kvs with
    | nil => rfl
    | cons q r ih =>
      by_cases e : q.1 = k
      · have e2 : ¬ q.1 = j := fun e3 => hne (e3.symm.trans e)
        simp only [List.map_cons, if_pos e, List.find?_cons, decide_eq_false e2]
        exact ih
      · simp only [List.map_cons, if_neg e, List.find?_cons]
        cases decide (q.1 = j) with
        | true => rfl
        | false => exact ih
  · rw [List.find?_append]
    cases h : kvs.find? fun kv => decide (kv.1 = j) with
    | some q => rfl
    | none => simp [Ne.symm hne]
def updC (C : Cfg) (x : Str) (v : Int) : Cfg :=
  { half := C.half, reuse := C.reuse, most := if x = Str.ofString "most" then v else C.most, suppress := if x = Str.ofString "suppress" then v else C.suppress, wd := if x = Str.ofString "withdrawn" then v else C.wd, ch := if x = Str.ofString "changed" then v else C.ch, ag := if x = Str.ofString "again" then v else C.ag }
theorem CfgIs.put {kc : List (Str × Value)} {x y : Str} {v u : Int} {t : Tok} (h : CfgIs kc y u) : CfgIs (stored kc x (.int v t)) y (if x = y then v else u) := by
  by_cases e : x = y
  · rw [if_pos e, e]
    exact ⟨t, str_put⟩
  · rw [if_neg e]
    obtain ⟨t2, h⟩ := h
    exact ⟨t2, (str_put_ne (Ne.symm e)).trans h⟩
theorem CfgAt.put {kc : List (Str × Value)} {C : Cfg} (h : CfgAt kc C) {x : Str} (hx : IsKey x) {v : Int} {t : Tok} : CfgAt (stored kc x (.int v t)) (updC C x v) := by
  have h1 : x ≠ Str.ofString "half" := by rcases hx with rfl | rfl | rfl | rfl | rfl <;> decide
  have h2 : x ≠ Str.ofString "reuse" := by rcases hx with rfl | rfl | rfl | rfl | rfl <;> decide
  refine ⟨?_, h.most.put, ?_, h.suppress.put, h.wd.put, h.ch.put, h.ag.put⟩
  · have := h.half.put (x := x) (v := v) (t := t)
    rwa [if_neg h1] at this
  · have := h.reuse.put (x := x) (v := v) (t := t)
    rwa [if_neg h2] at this
theorem cfg_gen {prog : Program} {w : World} {o : Obj} {kvs : List (Str × Value)} {C : Cfg} (h : o.IsDictOf (PySem.strKind prog w) kvs) (f : CfgAt kvs C) (hl : kvs.length ≤ 90) : ∃ kc, o.IsDictOf (PySem.strKind prog w) kc ∧ CfgAt kc C ∧ kc.length ≤ 90 := ⟨kvs, h, f, hl⟩
/-- a stern one's configuration -/
structure Stern (C1 C2 : Cfg) : Prop where
  half : C1.half = C2.half
  reuse : C1.reuse = C2.reuse
  most : C1.most ≤ C2.most
  supp : C2.suppress ≤ C1.suppress
  wd : C1.wd ≤ C2.wd
  ch : C1.ch ≤ C2.ch
  ag : C1.ag ≤ C2.ag
theorem stern_of {C : Cfg} {x : Str} {v by9 : Int} (hC : CfgOk C) (hx : IsKey x) (hm : C.most ≤ 50) (hs : C.reuse + 60 ≤ C.suppress) (hw : C.wd ≤ 250 ∧ C.ch ≤ 250 ∧ C.ag ≤ 250) 
    (hv : ((x == Str.ofString "suppress") = true ∧ v = keyV C x - by9) ∨ ((x == Str.ofString "suppress") = false ∧ v = keyV C x + by9)) (hb : 0 ≤ by9 ∧ by9 < 50) : CfgOk (updC C x v) ∧ Stern C (updC C x v) := by
  obtain ⟨o1, o2, o3, o4, o5, o6, o7⟩ := hC
  have n1 : Str.ofString "most" ≠ Str.ofString "suppress" := by decide
  have n2 : Str.ofString "most" ≠ Str.ofString "withdrawn" := by decide
  have n3 : Str.ofString "most" ≠ Str.ofString "changed" := by decide
  have n4 : Str.ofString "most" ≠ Str.ofString "again" := by decide
  have n5 : Str.ofString "suppress" ≠ Str.ofString "withdrawn" := by decide
  have n6 : Str.ofString "suppress" ≠ Str.ofString "changed" := by decide
  have n7 : Str.ofString "suppress" ≠ Str.ofString "again" := by decide
  have n8 : Str.ofString "withdrawn" ≠ Str.ofString "changed" := by decide
  have n9 : Str.ofString "withdrawn" ≠ Str.ofString "again" := by decide
  have n10 : Str.ofString "changed" ≠ Str.ofString "again" := by decide
  have b1 : (Str.ofString "most" == Str.ofString "suppress") = false := by decide
  have b2 : (Str.ofString "suppress" == Str.ofString "suppress") = true := by decide
  have b3 : (Str.ofString "withdrawn" == Str.ofString "suppress") = false := by decide
  have b4 : (Str.ofString "changed" == Str.ofString "suppress") = false := by decide
  have b5 : (Str.ofString "again" == Str.ofString "suppress") = false := by decide
  rcases hx with rfl | rfl | rfl | rfl | rfl
  all_goals simp only [b1, b2, b3, b4, b5, Bool.false_eq_true, Bool.true_eq_false, reduceCtorEq, keyV, n1, n2, n3, n4, n5, n6, n7, n8, n9, n10, n1.symm, n2.symm, n3.symm, n4.symm, n5.symm, n6.symm, n7.symm, n8.symm, n9.symm, n10.symm, if_true, if_false, ne_eq, not_true, not_false_eq_true, true_and, false_and, or_false, false_or] at hv
  all_goals
    constructor
    · refine ⟨?_, ?_, ?_, ?_, ?_, ?_, ?_⟩ <;> simp only [updC, n1, n2, n3, n4, n5, n6, n7, n8, n9, n10, n1.symm, n2.symm, n3.symm, n4.symm, n5.symm, n6.symm, n7.symm, n8.symm, n9.symm, n10.symm, if_true, if_false] <;> omega
    · refine ⟨rfl, rfl, ?_, ?_, ?_, ?_, ?_⟩ <;> simp only [updC, n1, n2, n3, n4, n5, n6, n7, n8, n9, n10, n1.symm, n2.symm, n3.symm, n4.symm, n5.symm, n6.symm, n7.symm, n8.symm, n9.symm, n10.symm, if_true, if_false] <;> omega
theorem Stern.top {C1 C2 : Cfg} (h : Stern C1 C2) (o1 : CfgOk C1) : gpen C1.reuse C1.most C1.half ≤ gpen C2.reuse C2.most C2.half := by
  have a := o1.half
  have b := o1.most
  have c := o1.reuse
  have d := h.most
  rw [← h.half, ← h.reuse]
  have := gpen_mono (reuse := C1.reuse) (most := C1.most) (half := C1.half) (by omega) (by omega) (by omega) (C2.most - C1.most).toNat
  rwa [show C1.most + ((C2.most - C1.most).toNat : Int) = C2.most by omega] at this
def DescL : List Addr → Prop
  | a :: b :: r => @LT.lt Nat _ b a ∧ DescL (b :: r)
  | _ => True
theorem DescL.lt : ∀ {l : List Addr} {a : Addr}, DescL (a :: l) → ∀ b ∈ l, @LT.lt Nat _ b a
  | _ :: _, _, h, _, .head _ => h.1
  | _ :: _, _, h, x, .tail _ hx => Nat.lt_trans (DescL.lt h.2 x hx) h.1
theorem DescL.nodup : ∀ {l : List Addr}, DescL l → l.Nodup
  | [], _ => List.nodup_nil
  | [_], _ => by simp
  | a :: b :: r, h => List.nodup_cons.mpr ⟨fun hm => Nat.lt_irrefl _ (DescL.lt h a hm), DescL.nodup h.2⟩

theorem cfg_two {prog : Program} {w : World} {o1 o2 : Obj} {kv1 kv2 : List (Str × Value)} {C : Cfg} (h1 : o1.IsDictOf (PySem.strKind prog w) kv1) (h2 : o2.IsDictOf (PySem.strKind prog w) kv2) (f1 : CfgAt kv1 C) (f2 : CfgAt kv2 C) (l1 : kv1.length ≤ 90) (l2 : kv2.length ≤ 90) (ok : CfgOk C)
    (hm : C.most ≤ 50) (hs : C.reuse + 60 ≤ C.suppress) (hw : C.wd ≤ 250 ∧ C.ch ≤ 250 ∧ C.ag ≤ 250) :
    ∃ kc1 kc2 C', o1.IsDictOf (PySem.strKind prog w) kc1 ∧ o2.IsDictOf (PySem.strKind prog w) kc2 ∧ CfgAt kc1 C' ∧ CfgAt kc2 C' ∧ kc1.length ≤ 90 ∧ kc2.length ≤ 90 ∧ CfgOk C' ∧ C'.most ≤ 50 ∧ C'.reuse + 60 ≤ C'.suppress ∧ (C'.wd ≤ 250 ∧ C'.ch ≤ 250 ∧ C'.ag ≤ 250) := ⟨kv1, kv2, C, h1, h2, f1, f2, l1, l2, ok, hm, hs, hw⟩
theorem stern_gen {prog : Program} {w : World} {o : Obj} {kc2 : List (Str × Value)} {C : Cfg} {x : Str} {v : Int} {t : Tok} (h : o.IsDictOf (PySem.strKind prog w) (stored kc2 x (.int v t))) (f : CfgAt kc2 C) (hx : IsKey x) (hl : kc2.length ≤ 90) (hs : CfgOk (updC C x v) ∧ Stern C (updC C x v)) :
    ∃ kc3 C3, o.IsDictOf (PySem.strKind prog w) kc3 ∧ CfgAt kc3 C3 ∧ CfgOk C3 ∧ Stern C C3 := ⟨_, _, h, f.put hx, hs.1, hs.2⟩
theorem law_start {w : World} {mean : ExcName → Option Value} {mg mb : Str → Option Value} {h₀ : Heap} {L fa cc : Addr} {s0 : Shared} {Q : Flow → Shared → Prop} {E' : Value → Shared → Prop} {m : Str → Option Value} {nx : Led}
    {b li lw d1 dx1 c1 r1 d2 dx2 c2 r2 : Addr} {vs : List Value} {ns : List Int} {n2 nb nw : Nat} {oc1 oc2 or1 or2 : Obj} {kc1 kc2 : List (Str × Value)} {C1 C2 : Cfg} {top1 top2 sp now cnt : Int} {tn tsp ts ta tb tc : Tok}
    {x1 y1 x2 y2 x3 y3 y4 u1 v1 u2 v2 u3 v3 v4}
    (B : Below callerA h₀ [] h₀) (F : Fr h₀ L s0.heap m) (X : (hd2.heap_39 w.params).In h₀) (N : News h₀ L s0.heap nx) (T : Top hd2.view_39 (looseW hd2.view_39 []) mean mg mb h₀)
    (m1 : m (Str.ofString "box") = some (.ref b)) (m2 : m (Str.ofString "mild") = some (.ref d1)) (m3 : m (Str.ofString "hard") = some (.ref d2)) (m4 : m (Str.ofString "words") = some (.ref lw)) (m5 : m (Str.ofString "spot") = some (.int sp tsp)) (m6 : m (Str.ofString "now") = some (.int now tn))
    (hb : (b, W.listOf [.ref li, .int cnt ts].toArray nb) ∈ nx) (hli : (li, W.listOf vs.toArray n2) ∈ nx) (hw : (lw, W.listOf [.str (Str.ofString "withdrawn") ta, .str (Str.ofString "changed") tb, .str (Str.ofString "again") tc].toArray nw) ∈ nx)
    (hd1 : (d1, instObj 154 dx1) ∈ nx) (hx1 : (dx1, dictOf [⟨x1, .str (Str.ofString "config") y1, .ref c1⟩, ⟨x2, .str (Str.ofString "rows") y2, .ref r1⟩, ⟨x3, .str (Str.ofString "top") y3, .int top1 y4⟩] 3) ∈ nx) (hc1 : (c1, oc1) ∈ nx) (hr1 : (r1, or1) ∈ nx)
    (hd2 : (d2, instObj 154 dx2) ∈ nx) (hx2 : (dx2, dictOf [⟨u1, .str (Str.ofString "config") v1, .ref c2⟩, ⟨u2, .str (Str.ofString "rows") v2, .ref r2⟩, ⟨u3, .str (Str.ofString "top") v3, .int top2 v4⟩] 3) ∈ nx) (hc2 : (c2, oc2) ∈ nx) (hr2 : (r2, or2) ∈ nx)
    (hi : IntsAre vs ns) (hlen : ns.length ≤ 100) (hcd1 : oc1.IsDictOf (PySem.strKind PySem.Challenge.rw_sj0173_02.row.prog w) kc1) (hcd2 : oc2.IsDictOf (PySem.strKind PySem.Challenge.rw_sj0173_02.row.prog w) kc2) (hrd1 : or1.IsDictOf (PySem.intKind PySem.Challenge.rw_sj0173_02.row.prog w) []) (hrd2 : or2.IsDictOf (PySem.intKind PySem.Challenge.rw_sj0173_02.row.prog w) []) (hrs1 : (r1 == sysModules) = false) (hrs2 : (r2 == sysModules) = false)
    (f1 : CfgAt kc1 C1) (f2 : CfgAt kc2 C2) (ok1 : CfgOk C1) (ok2 : CfgOk C2) (st : Stern C1 C2) (e1 : top1 = gpen C1.reuse C1.most C1.half) (e2 : top2 = gpen C2.reuse C2.most C2.half) (hde : DescL (nx.map (·.1)))
    (bl : li ≠ b) (bw : lw ≠ b) (q1 : dx1 ≠ r1) (q2 : c1 ≠ r1) (q3 : dx2 ≠ r1) (q4 : c2 ≠ r1) (q5 : r2 ≠ r1) (p1 : dx1 ≠ r2) (p2 : c1 ≠ r2) (p3 : dx2 ≠ r2) (p4 : c2 ≠ r2) (hcnt : 0 ≤ cnt ∧ cnt ≤ 10) (hnow : now = 0)
    (ret : ∀ h' tk' m', Fr h₀ L h' m' → Q (.ret (.bool true)) { s0 with heap := h', toks := tk' }) :
    wpAny (model PySem.Challenge.rw_sj0173_02.row.prog w) (callerA.deeper (envOf (Str.ofString "law") lawScope L fa (.ref cc))) (execs (lawBody.drop 9) (envOf (Str.ofString "law") lawScope L fa (.ref cc))) Q
      (fun e s' => wpAny (model PySem.Challenge.rw_sj0173_02.row.prog w) (callerA.deeper (envOf (Str.ofString "law") lawScope L fa (.ref cc))) (leaving (envOf (Str.ofString "law") lawScope L fa (.ref cc)) e) (fun _ s'' => E' e s'') (fun e' s'' => E' e' s'') s') s0 := by
  have h1 := ok1.half
  have t1 := gpen_nn (reuse := C1.reuse) (most := C1.most) (half := C1.half) (by have := ok1.reuse; omega) ok1.most.1 (by omega)
  have t2 := st.top ok1
  refine law_tail (a := { b, li, lw, d1, dx1, c1, r1, d2, dx2, c2, r2, vs, ns, n2, oc1, oc2, kc1, kc2, C1, C2, top1, top2 }) sp B F X N T ⟨hi, hlen, f1, f2, ok1, ok2, st.half, st.reuse, st.supp, st.wd, st.ch, st.ag, by show 0 ≤ top1; omega, by show top1 ≤ top2; omega, bl, bw, q1, q2, q3, q4, q5, p1, p2, p3, p4⟩ ?_ ret
  refine ⟨now, tn, tsp, cnt, none, none, m1, m2, m3, m4, m5, m6, ⟨or1, or2, [], [], ?_⟩, by omega, by omega, trivial, trivial, ov_none⟩
  exact ⟨hde.nodup, ⟨_, _, hb⟩, hli, ⟨_, _, _, _, hw⟩, ⟨hd1, ⟨_, _, _, _, _, _, _, hx1⟩, hc1, hcd1, hr1, hrd1, hrs1, Nat.zero_le _⟩, ⟨hd2, ⟨_, _, _, _, _, _, _, hx2⟩, hc2, hcd2, hr2, hrd2, hrs2, Nat.zero_le _⟩, rfl, rfl, Nat.zero_le _, Nat.zero_le _, (fun _ h => nomatch h), (fun _ h => nomatch h)⟩
theorem law_walk {w : World} {mean : ExcName → Option Value} {mg mb : Str → Option Value} {h₀ : Heap} {L fa cc l : Addr} {vs : List Value} {ns : List Int} {s0 : Shared} {Q : Flow → Shared → Prop} {E' : Value → Shared → Prop}
    (B : Below callerA h₀ [] h₀) (F : Fr h₀ L s0.heap (fun x => List.lookup x [(Str.ofString "script", Value.ref l)].reverse)) (X : (hd2.heap_39 w.params).In h₀) (N : News h₀ L s0.heap []) (T : Top hd2.view_39 (looseW hd2.view_39 []) mean mg mb h₀)
    (hl : h₀.IsList l vs.toArray) (hi : IntsAre vs ns) (hlen : ns.length ≤ 63)
    (ret : ∀ h' tk' m', Fr h₀ L h' m' → Q (.ret (.bool true)) { s0 with heap := h', toks := tk' }) :
    wpAny (model PySem.Challenge.rw_sj0173_02.row.prog w) (callerA.deeper (envOf (Str.ofString "law") lawScope L fa (.ref cc))) (execs lawBody (envOf (Str.ofString "law") lawScope L fa (.ref cc))) Q
      (fun e s' => wpAny (model PySem.Challenge.rw_sj0173_02.row.prog w) (callerA.deeper (envOf (Str.ofString "law") lawScope L fa (.ref cc))) (leaving (envOf (Str.ofString "law") lawScope L fa (.ref cc)) e) (fun _ s'' => E' e s'') (fun e' s'' => E' e' s'') s') s0 := by
  (k_with_none; (k_with "my fact" => (first | assumption | trivial | omega | (refine ⟨?_, ?_⟩ <;> omega) | ((try dsimp only); first | assumption | omega | l_fact))); (k_with "call builtin:min" => ((k_here; (with_reducible show wpAny _ _ (call (Value.builtin _) [Value.int _ _, Value.int _ _, Value.int _ _]) _ _ _); (with_unfolding_all refine my_min3 (by with_unfolding_all rfl) (by k_asm) (by k_asm) ?_); k_whole); intro v9 t9 h9 tk9 c9 F9 N9; (have d9 := c9 (by omega)); clear c9; (try dsimp only))); (k_with "call ref" => ((k_here; (with_reducible show wpAny _ _ (call (Value.ref 165) _) _ _ _); k_dflt (refine Ctr.use9 (by k_asm) (by k_asm) (by k_asm) (by k_asm) (by k_asm) (by first | exact rfl | assumption) (by ktr_room) (by first | ktr_units | exact Nat.le_of_ble_eq_true rfl) (law_draw_c _ _ _ _ (by k_updF) (by k_mem) (by k_ne) (by l_ints) (by walk_at "my len") (by walk_at "my fact") (by walk_at "my fact")) ?_); k_whole); intro r9 n9 h9 tk9 F9 N9 P9; obtain ⟨v9, t9, u9, m9, e8, lo9, hi9, e9⟩ := P9; subst e8; subst e9; (try dsimp only at N9); (try dsimp only); (try k_fold))); (k_with "my len" => (first | assumption | (simp only [List.length_take]; omega) | l_fact | omega)); (k_with "call ref" => ((k_here; (with_reducible show wpAny _ _ (call (Value.ref 60) _) _ _ _); k_dflt (refine Ctr.use9 (by k_asm) (by k_asm) (by k_asm) (by k_asm) (by k_asm) (by first | exact rfl | assumption) (by ktr_room) (by first | ktr_units | exact Nat.le_of_ble_eq_true rfl) (check_damping_c _ (by k_mem) (by k_asm) (by k_asm) (by k_asm)) ?_); k_whole); intro r9 n9 h9 tk9 F9 N9 P9; obtain ⟨e9, e8⟩ := P9; replace e9 := e9.symm; subst e9; subst e8; (try dsimp only); (try k_fold))); (k_with "call ref" => ((k_here; (with_reducible show wpAny _ _ (call (Value.ref 74) _) _ _ _); k_dflt (refine Ctr.use9 (by k_asm) (by k_asm) (by k_asm) (by k_asm) (by k_asm) (by first | exact rfl | assumption) (by ktr_room) (by first | ktr_units | exact Nat.le_of_ble_eq_true rfl) (greatest_penalty_c _ _ _ _ _ _ (by walk_at "my fact") (by walk_at "my fact") (by walk_at "my fact")) ?_); k_whole); intro r9 n9 h9 tk9 F9 N9 P9; obtain ⟨e9, t9, e8⟩ := P9; replace e9 := e9.symm; subst e9; subst e8; (try dsimp only); (try k_fold))); (k_with "execs cons" => ((with_reducible show wpAny _ _ _ _ _ (Shared.mk _ _ _ (_ + _) _)); refine tok_any fun tk9 => ?_)); (k_with "execs nil" => ((with_reducible show wpAny _ _ _ _ _ (Shared.mk _ _ _ (_ + _) _)); refine tok_any fun tk9 => ?_)); (k_with "exec For Name Call cons nil" => ((k_here; (rename Fr _ _ _ _ => lF9); (with_unfolding_all refine For_invVF lF9 (by exact rfl) (by exact rfl) ?_); k_whole))); (k_with "pyIter ref" => (refine Stop.mk ?_)); (k_with "call type:dict" => (refine Stop.mk ?_)); (k_with "subscriptTail" => ((k_here; (with_reducible show wpAny _ _ (subscriptTail _ _ (Value.ref _) (Value.int _ _)) _ _ _); k_dflt (refine my_name (by k_asm) (by k_mem) (by omega) (by omega) ?_); intro x9 t9 w9; (try dsimp only)))); (k_with "subscriptTail" => ((k_here; (with_reducible show wpAny _ _ (subscriptTail _ _ (Value.ref _) (Value.str _ _)) _ _ _); k_dflt (refine kda_item (knd := PySem.strKind _ _) (by k_asm) (by k_mem) (by k_asm) (strKind_is _ _ _ _) (by assumption) ?_); (try dsimp only)))); (k_with "setItem ref str" => ((k_here; k_dflt (refine kda_set (knd := PySem.strKind _ _) (by k_asm) (by k_asm) (by k_updF) (by k_asm) (strKind_is _ _ _ _) (by rw [sizeLine_eq]; omega) ?_); intro h9 o9 F9 N9 hd9; (try dsimp only at N9); (try dsimp only)))); (k_with "execs cons" => ((with_reducible show wpAny _ _ (execs (Stmt.For _ _ _ _ _ :: _) _) _ _ _); refine Stop.mk ?_)); (k_with "execs cons" => ((with_reducible show wpAny _ _ (execs (Stmt.Assign [Expr.Tuple (Expr.Name (Str.ofString "mild") _ :: _) _ _] _ _ :: _) _) _ _ _); refine Stop.mk ?_)))
  revert X
  k_fill
  intro X
  simp only [lawBody, lawScope, lawStmt, bodyOf, scopeOf, PySem.Challenge.pw_sj0173_02, List.getLast?_cons_cons, List.getLast?_singleton, Option.getD_some]
  (try k_fold)
  k_steps
  refine Stop.go ?_
  (rename Fr _ _ _ _ => lF)
  (rename News _ _ _ _ => lN)
  (rename Obj.IsDictOf _ _ _ => hd1)
  refine' dict_pairs_N (ps := [(_, _), (_, _), (_, _), (_, _), (_, _), (_, _), (_, _)]) rfl lF lN T.nolimit ?hl ?hp ?hz ?hk ?_
  (case hl => k_mem)
  (case hp => (refine' ⟨⟨_, _, rfl, ?q1⟩, ⟨_, _, rfl, ?q2⟩, ⟨_, _, rfl, ?q3⟩, ⟨_, _, rfl, ?q4⟩, ⟨_, _, rfl, ?q5⟩, ⟨_, _, rfl, ?q6⟩, ⟨_, _, rfl, ?q7⟩, trivial⟩; (case q1 => k_mem); (case q2 => k_mem); (case q3 => k_mem); (case q4 => k_mem); (case q5 => k_mem); (case q6 => k_mem); (case q7 => k_mem)))
  (case hz => exact Nat.le_of_ble_eq_true rfl)
  (case hk => exact of_decide_eq_true (by rfl))
  clear lF lN
  intro d9 h9 o9 tk9 F9 N9 lt9 lo9 hd9
  obtain ⟨kc1, kc2, C1, hd1', hd9', f1, f2, l1, l2, ok1, hm1, hs1, hw1⟩ := cfg_two (C := ⟨_, _, _, _, _, _, _⟩) hd1 hd9 ⟨⟨_, by rfl⟩, ⟨_, by rfl⟩, ⟨_, by rfl⟩, ⟨_, by rfl⟩, ⟨_, by rfl⟩, ⟨_, by rfl⟩, ⟨_, by rfl⟩⟩ ⟨⟨_, by rfl⟩, ⟨_, by rfl⟩, ⟨_, by rfl⟩, ⟨_, by rfl⟩, ⟨_, by rfl⟩, ⟨_, by rfl⟩, ⟨_, by rfl⟩⟩ (Nat.le_of_ble_eq_true rfl) (Nat.le_of_ble_eq_true rfl) (by refine ⟨?_, ?_, ?_, ?_, ?_, ?_, ?_⟩ <;> (dsimp only; omega)) (by dsimp only; omega) (by dsimp only; omega) (by dsimp only; omega)
  clear hd1 hd9
  (rename IsKey _ => wk)
  obtain ⟨tq, hq⟩ := f1.key wk
  (replace lt9 := allLt_of lt9)
  simp only [AllLt, and_true] at lt9
  (try dsimp only)
  (try k_fold)
  k_steps
  · refine Stop.go (wpAny_execs_cons ?_)
    (rename Obj.IsDictOf _ _ _ => hd3)
    obtain ⟨kc3, C3, hd3', f3, ok3, st3⟩ := stern_gen hd3 f2 wk l2 (stern_of ok1 wk hm1 hs1 hw1 (by first | exact .inl ⟨by assumption, rfl⟩ | exact .inr ⟨by assumption, rfl⟩) (by omega))
    clear hd3 hd9'
    obtain ⟨⟨e1, g1⟩, ⟨e2, g2⟩, ⟨e3, g3⟩, ⟨e4, g4⟩, ⟨e5, g5⟩, ⟨e6, g6⟩, ⟨e7, g7⟩⟩ := id f1
    obtain ⟨⟨e11, g11⟩, ⟨e12, g12⟩, ⟨e13, g13⟩, ⟨e14, g14⟩, ⟨e15, g15⟩, ⟨e16, g16⟩, ⟨e17, g17⟩⟩ := id f3
    have ok1' := ok1
    have ok3' := ok3
    obtain ⟨ok11, ok12, ok13, ok14, ok15, ok16, ok17⟩ := ok1'
    obtain ⟨ok31, ok32, ok33, ok34, ok35, ok36, ok37⟩ := ok3'
    (try dsimp only)
    (try k_fold)
    k_steps
    refine Stop.go ?_
    (rename Fr _ _ _ _ => lF)
    (rename News _ _ _ _ => lN)
    refine' law_start B lF X lN T rfl rfl rfl rfl rfl rfl ?ya1 ?ya2 ?ya3 ?ya4 ?ya5 ?ya6 ?ya7 ?ya8 ?ya9 ?yb1 ?yb2 ?yc1 ?yc2 ?yc3 ?yc4 ?yc5 ?yc6 ?yc7 ?yc8 f1 f3 ok1 ok3 st3 rfl rfl ?yc9 ?yd1 ?yd2 ?yd3 ?yd4 ?yd5 ?yd6 ?yd7 ?yd8 ?yd9 ?ye1 ?ye2 ?ye3 rfl ret
    (case ya1 => k_mem); (case ya2 => k_mem); (case ya3 => k_mem); (case ya4 => k_mem); (case ya5 => k_mem); (case ya6 => k_mem); (case ya7 => k_mem); (case ya8 => k_mem); (case ya9 => k_mem); (case yb1 => k_mem); (case yb2 => k_mem)
    (case yc1 => l_ints); (case yc2 => walk_at "my len"); (case yc3 => k_asm); (case yc4 => k_asm); (case yc5 => k_asm); (case yc6 => k_asm); (case yc7 => k_asm); (case yc8 => k_asm)
    (case ye3 => exact ⟨by omega, by omega⟩)
    (case yc9 => simp only [List.map_cons, List.map_nil, DescL, and_true]; (repeat' apply And.intro) <;> omega)
    all_goals k_ne
  · refine Stop.go (wpAny_execs_cons ?_)
    (rename Obj.IsDictOf _ _ _ => hd3)
    obtain ⟨kc3, C3, hd3', f3, ok3, st3⟩ := stern_gen hd3 f2 wk l2 (stern_of ok1 wk hm1 hs1 hw1 (by first | exact .inl ⟨by assumption, rfl⟩ | exact .inr ⟨by assumption, rfl⟩) (by omega))
    clear hd3 hd9'
    obtain ⟨⟨e1, g1⟩, ⟨e2, g2⟩, ⟨e3, g3⟩, ⟨e4, g4⟩, ⟨e5, g5⟩, ⟨e6, g6⟩, ⟨e7, g7⟩⟩ := id f1
    obtain ⟨⟨e11, g11⟩, ⟨e12, g12⟩, ⟨e13, g13⟩, ⟨e14, g14⟩, ⟨e15, g15⟩, ⟨e16, g16⟩, ⟨e17, g17⟩⟩ := id f3
    have ok1' := ok1
    have ok3' := ok3
    obtain ⟨ok11, ok12, ok13, ok14, ok15, ok16, ok17⟩ := ok1'
    obtain ⟨ok31, ok32, ok33, ok34, ok35, ok36, ok37⟩ := ok3'
    (try dsimp only)
    (try k_fold)
    k_steps
    refine Stop.go ?_
    (rename Fr _ _ _ _ => lF)
    (rename News _ _ _ _ => lN)
    refine' law_start B lF X lN T rfl rfl rfl rfl rfl rfl ?za1 ?za2 ?za3 ?za4 ?za5 ?za6 ?za7 ?za8 ?za9 ?zb1 ?zb2 ?zc1 ?zc2 ?zc3 ?zc4 ?zc5 ?zc6 ?zc7 ?zc8 f1 f3 ok1 ok3 st3 rfl rfl ?zc9 ?zd1 ?zd2 ?zd3 ?zd4 ?zd5 ?zd6 ?zd7 ?zd8 ?zd9 ?ze1 ?ze2 ?ze3 rfl ret
    (case za1 => k_mem); (case za2 => k_mem); (case za3 => k_mem); (case za4 => k_mem); (case za5 => k_mem); (case za6 => k_mem); (case za7 => k_mem); (case za8 => k_mem); (case za9 => k_mem); (case zb1 => k_mem); (case zb2 => k_mem)
    (case zc1 => l_ints); (case zc2 => walk_at "my len"); (case zc3 => k_asm); (case zc4 => k_asm); (case zc5 => k_asm); (case zc6 => k_asm); (case zc7 => k_asm); (case zc8 => k_asm)
    (case ze3 => exact ⟨by omega, by omega⟩)
    (case zc9 => simp only [List.map_cons, List.map_nil, DescL, and_true]; (repeat' apply And.intro) <;> omega)
    all_goals k_ne
end Mine
open Mine
theorem PySem.Challenge.cw_sj0173_02_holds : PySem.Challenge.rw_sj0173_02.Holds :=
  hd2 (by
  k_with_none
  k_go0
  (rename Below _ _ _ _ => b0)
  (rename Fr _ _ _ _ => f0)
  (rename News _ _ _ _ => n0)
  refine law_walk b0 f0 (by assumption) n0 (by assumption) (by assumption) (by assumption) (by omega) ?_
  intro h' tk' m' F'
  dsimp only
  wrow_close)
