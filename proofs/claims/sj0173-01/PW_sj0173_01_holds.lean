import PyProof.Rows.All
import Wide.All
import OpenK.AllK
import Wide.FinOn
import PySem.Challenge.RW_sj0173_01
open PySem PySem.W PyProof.Rows PySem.Spec PySem.Calls
set_option Elab.async false
set_option maxRecDepth 100000
set_option maxHeartbeats 8000000
set_option linter.all false
set_option compiler.extract_closed false
set_option bootstrap.genMatcherCode false
set_option genInjectivity false
set_option genSizeOf false
namespace Mine
def stn (i : Nat) : Stmt := PySem.Challenge.pw_sj0173_01.main.body.getD i (.Pass ⟨0, 0, 0, 0⟩)
def P2 : Program := { PySem.Challenge.pw_sj0173_01 with main := { PySem.Challenge.pw_sj0173_01.main with body := [stn 0, stn 1, stn 2, stn 3, stn 4, stn 5, stn 6, stn 7, stn 8, stn 9, stn 10, stn 11, stn 12, stn 13, stn 14] } }
def XL : OpenLaw := { PySem.Challenge.rw_sj0173_01 with prog := P2 }
theorem XL_eq : XL = PySem.Challenge.rw_sj0173_01 := by kernel_rfl
section
local macro_rules | `(tactic| o_head $_) => `(tactic| assumption)
theorem pre1 (h : XL.row.Holds) : XL.row.Holds := by
  k_head
end
def Carrier (_ : Params → List (Nat × Obj)) : Prop := True
theorem carrier {x y : Params → List (Nat × Obj)} (_ : x = y) : Carrier x := trivial
noncomputable def getM {x : Params → List (Nat × Obj)} (_ : Carrier x) : Params → List (Nat × Obj) := x
noncomputable def kk0 : Params → List (Nat × Obj) := getM (carrier (y := fun P => @List.take (Nat × Obj) 4 (pre1.heap_1 P)) (by unfold pre1.heap_1; simp only [List.drop_succ_cons, List.drop_zero, List.take_succ_cons, List.take_zero, List.take_nil]; exact rfl))
noncomputable def rr1 : Params → List (Nat × Obj) := getM (carrier (y := fun P => @List.drop (Nat × Obj) 4 (pre1.heap_1 P)) (by unfold pre1.heap_1; simp only [List.drop_succ_cons, List.drop_zero, List.take_succ_cons, List.take_zero, List.take_nil]; exact rfl))
noncomputable def kk1 : Params → List (Nat × Obj) := getM (carrier (y := fun P => @List.take (Nat × Obj) 4 (rr1 P)) (by unfold rr1 getM; simp only [List.drop_succ_cons, List.drop_zero, List.take_succ_cons, List.take_zero, List.take_nil]; exact rfl))
noncomputable def rr2 : Params → List (Nat × Obj) := getM (carrier (y := fun P => @List.drop (Nat × Obj) 4 (rr1 P)) (by unfold rr1 getM; simp only [List.drop_succ_cons, List.drop_zero, List.take_succ_cons, List.take_zero, List.take_nil]; exact rfl))
noncomputable def kk2 : Params → List (Nat × Obj) := getM (carrier (y := fun P => @List.take (Nat × Obj) 4 (rr2 P)) (by unfold rr2 getM; simp only [List.drop_succ_cons, List.drop_zero, List.take_succ_cons, List.take_zero, List.take_nil]; exact rfl))
noncomputable def rr3 : Params → List (Nat × Obj) := getM (carrier (y := fun P => @List.drop (Nat × Obj) 4 (rr2 P)) (by unfold rr2 getM; simp only [List.drop_succ_cons, List.drop_zero, List.take_succ_cons, List.take_zero, List.take_nil]; exact rfl))
noncomputable def kk3 : Params → List (Nat × Obj) := getM (carrier (y := fun P => @List.take (Nat × Obj) 4 (rr3 P)) (by unfold rr3 getM; simp only [List.drop_succ_cons, List.drop_zero, List.take_succ_cons, List.take_zero, List.take_nil]; exact rfl))
noncomputable def rr4 : Params → List (Nat × Obj) := getM (carrier (y := fun P => @List.drop (Nat × Obj) 4 (rr3 P)) (by unfold rr3 getM; simp only [List.drop_succ_cons, List.drop_zero, List.take_succ_cons, List.take_zero, List.take_nil]; exact rfl))
noncomputable def kk4 : Params → List (Nat × Obj) := getM (carrier (y := fun P => @List.take (Nat × Obj) 4 (rr4 P)) (by unfold rr4 getM; simp only [List.drop_succ_cons, List.drop_zero, List.take_succ_cons, List.take_zero, List.take_nil]; exact rfl))
noncomputable def rr5 : Params → List (Nat × Obj) := getM (carrier (y := fun P => @List.drop (Nat × Obj) 4 (rr4 P)) (by unfold rr4 getM; simp only [List.drop_succ_cons, List.drop_zero, List.take_succ_cons, List.take_zero, List.take_nil]; exact rfl))
noncomputable def kk5 : Params → List (Nat × Obj) := getM (carrier (y := fun P => @List.take (Nat × Obj) 4 (rr5 P)) (by unfold rr5 getM; simp only [List.drop_succ_cons, List.drop_zero, List.take_succ_cons, List.take_zero, List.take_nil]; exact rfl))
noncomputable def rr6 : Params → List (Nat × Obj) := getM (carrier (y := fun P => @List.drop (Nat × Obj) 4 (rr5 P)) (by unfold rr5 getM; simp only [List.drop_succ_cons, List.drop_zero, List.take_succ_cons, List.take_zero, List.take_nil]; exact rfl))
noncomputable def kk6 : Params → List (Nat × Obj) := getM (carrier (y := fun P => @List.take (Nat × Obj) 4 (rr6 P)) (by unfold rr6 getM; simp only [List.drop_succ_cons, List.drop_zero, List.take_succ_cons, List.take_zero, List.take_nil]; exact rfl))
noncomputable def rr7 : Params → List (Nat × Obj) := getM (carrier (y := fun P => @List.drop (Nat × Obj) 4 (rr6 P)) (by unfold rr6 getM; simp only [List.drop_succ_cons, List.drop_zero, List.take_succ_cons, List.take_zero, List.take_nil]; exact rfl))
noncomputable def kk7 : Params → List (Nat × Obj) := getM (carrier (y := fun P => @List.take (Nat × Obj) 4 (rr7 P)) (by unfold rr7 getM; simp only [List.drop_succ_cons, List.drop_zero, List.take_succ_cons, List.take_zero, List.take_nil]; exact rfl))
noncomputable def rr8 : Params → List (Nat × Obj) := getM (carrier (y := fun P => @List.drop (Nat × Obj) 4 (rr7 P)) (by unfold rr7 getM; simp only [List.drop_succ_cons, List.drop_zero, List.take_succ_cons, List.take_zero, List.take_nil]; exact rfl))
noncomputable def kk8 : Params → List (Nat × Obj) := getM (carrier (y := fun P => @List.take (Nat × Obj) 4 (rr8 P)) (by unfold rr8 getM; simp only [List.drop_succ_cons, List.drop_zero, List.take_succ_cons, List.take_zero, List.take_nil]; exact rfl))
noncomputable def rr9 : Params → List (Nat × Obj) := getM (carrier (y := fun P => @List.drop (Nat × Obj) 4 (rr8 P)) (by unfold rr8 getM; simp only [List.drop_succ_cons, List.drop_zero, List.take_succ_cons, List.take_zero, List.take_nil]; exact rfl))
noncomputable def kk9 : Params → List (Nat × Obj) := getM (carrier (y := fun P => @List.take (Nat × Obj) 4 (rr9 P)) (by unfold rr9 getM; simp only [List.drop_succ_cons, List.drop_zero, List.take_succ_cons, List.take_zero, List.take_nil]; exact rfl))
noncomputable def rr10 : Params → List (Nat × Obj) := getM (carrier (y := fun P => @List.drop (Nat × Obj) 4 (rr9 P)) (by unfold rr9 getM; simp only [List.drop_succ_cons, List.drop_zero, List.take_succ_cons, List.take_zero, List.take_nil]; exact rfl))
noncomputable def kk10 : Params → List (Nat × Obj) := getM (carrier (y := fun P => @List.take (Nat × Obj) 4 (rr10 P)) (by unfold rr10 getM; simp only [List.drop_succ_cons, List.drop_zero, List.take_succ_cons, List.take_zero, List.take_nil]; exact rfl))
noncomputable def rr11 : Params → List (Nat × Obj) := getM (carrier (y := fun P => @List.drop (Nat × Obj) 4 (rr10 P)) (by unfold rr10 getM; simp only [List.drop_succ_cons, List.drop_zero, List.take_succ_cons, List.take_zero, List.take_nil]; exact rfl))
noncomputable def kk11 : Params → List (Nat × Obj) := getM (carrier (y := fun P => @List.take (Nat × Obj) 4 (rr11 P)) (by unfold rr11 getM; simp only [List.drop_succ_cons, List.drop_zero, List.take_succ_cons, List.take_zero, List.take_nil]; exact rfl))
noncomputable def rr12 : Params → List (Nat × Obj) := getM (carrier (y := fun P => @List.drop (Nat × Obj) 4 (rr11 P)) (by unfold rr11 getM; simp only [List.drop_succ_cons, List.drop_zero, List.take_succ_cons, List.take_zero, List.take_nil]; exact rfl))
noncomputable def kk12 : Params → List (Nat × Obj) := getM (carrier (y := fun P => @List.take (Nat × Obj) 4 (rr12 P)) (by unfold rr12 getM; simp only [List.drop_succ_cons, List.drop_zero, List.take_succ_cons, List.take_zero, List.take_nil]; exact rfl))
noncomputable def rr13 : Params → List (Nat × Obj) := getM (carrier (y := fun P => @List.drop (Nat × Obj) 4 (rr12 P)) (by unfold rr12 getM; simp only [List.drop_succ_cons, List.drop_zero, List.take_succ_cons, List.take_zero, List.take_nil]; exact rfl))
noncomputable def kk13 : Params → List (Nat × Obj) := getM (carrier (y := fun P => @List.take (Nat × Obj) 4 (rr13 P)) (by unfold rr13 getM; simp only [List.drop_succ_cons, List.drop_zero, List.take_succ_cons, List.take_zero, List.take_nil]; exact rfl))
noncomputable def rr14 : Params → List (Nat × Obj) := getM (carrier (y := fun P => @List.drop (Nat × Obj) 4 (rr13 P)) (by unfold rr13 getM; simp only [List.drop_succ_cons, List.drop_zero, List.take_succ_cons, List.take_zero, List.take_nil]; exact rfl))
noncomputable def kk14 : Params → List (Nat × Obj) := getM (carrier (y := fun P => @List.take (Nat × Obj) 4 (rr14 P)) (by unfold rr14 getM; simp only [List.drop_succ_cons, List.drop_zero, List.take_succ_cons, List.take_zero, List.take_nil]; exact rfl))
noncomputable def rr15 : Params → List (Nat × Obj) := getM (carrier (y := fun P => @List.drop (Nat × Obj) 4 (rr14 P)) (by unfold rr14 getM; simp only [List.drop_succ_cons, List.drop_zero, List.take_succ_cons, List.take_zero, List.take_nil]; exact rfl))
noncomputable def kk15 : Params → List (Nat × Obj) := getM (carrier (y := fun P => @List.take (Nat × Obj) 4 (rr15 P)) (by unfold rr15 getM; simp only [List.drop_succ_cons, List.drop_zero, List.take_succ_cons, List.take_zero, List.take_nil]; exact rfl))
noncomputable def rr16 : Params → List (Nat × Obj) := getM (carrier (y := fun P => @List.drop (Nat × Obj) 4 (rr15 P)) (by unfold rr15 getM; simp only [List.drop_succ_cons, List.drop_zero, List.take_succ_cons, List.take_zero, List.take_nil]; exact rfl))
noncomputable def kk16 : Params → List (Nat × Obj) := getM (carrier (y := fun P => @List.take (Nat × Obj) 4 (rr16 P)) (by unfold rr16 getM; simp only [List.drop_succ_cons, List.drop_zero, List.take_succ_cons, List.take_zero, List.take_nil]; exact rfl))
noncomputable def rr17 : Params → List (Nat × Obj) := getM (carrier (y := fun P => @List.drop (Nat × Obj) 4 (rr16 P)) (by unfold rr16 getM; simp only [List.drop_succ_cons, List.drop_zero, List.take_succ_cons, List.take_zero, List.take_nil]; exact rfl))
noncomputable def kk17 : Params → List (Nat × Obj) := getM (carrier (y := fun P => @List.take (Nat × Obj) 4 (rr17 P)) (by unfold rr17 getM; simp only [List.drop_succ_cons, List.drop_zero, List.take_succ_cons, List.take_zero, List.take_nil]; exact rfl))
noncomputable def rr18 : Params → List (Nat × Obj) := getM (carrier (y := fun P => @List.drop (Nat × Obj) 4 (rr17 P)) (by unfold rr17 getM; simp only [List.drop_succ_cons, List.drop_zero, List.take_succ_cons, List.take_zero, List.take_nil]; exact rfl))
noncomputable def kk18 : Params → List (Nat × Obj) := getM (carrier (y := fun P => @List.take (Nat × Obj) 4 (rr18 P)) (by unfold rr18 getM; simp only [List.drop_succ_cons, List.drop_zero, List.take_succ_cons, List.take_zero, List.take_nil]; exact rfl))
noncomputable def rr19 : Params → List (Nat × Obj) := getM (carrier (y := fun P => @List.drop (Nat × Obj) 4 (rr18 P)) (by unfold rr18 getM; simp only [List.drop_succ_cons, List.drop_zero, List.take_succ_cons, List.take_zero, List.take_nil]; exact rfl))
noncomputable def kk19 : Params → List (Nat × Obj) := getM (carrier (y := fun P => @List.take (Nat × Obj) 4 (rr19 P)) (by unfold rr19 getM; simp only [List.drop_succ_cons, List.drop_zero, List.take_succ_cons, List.take_zero, List.take_nil]; exact rfl))
noncomputable def rr20 : Params → List (Nat × Obj) := getM (carrier (y := fun P => @List.drop (Nat × Obj) 4 (rr19 P)) (by unfold rr19 getM; simp only [List.drop_succ_cons, List.drop_zero, List.take_succ_cons, List.take_zero, List.take_nil]; exact rfl))
noncomputable def kk20 : Params → List (Nat × Obj) := getM (carrier (y := fun P => @List.take (Nat × Obj) 4 (rr20 P)) (by unfold rr20 getM; simp only [List.drop_succ_cons, List.drop_zero, List.take_succ_cons, List.take_zero, List.take_nil]; exact rfl))
noncomputable def rr21 : Params → List (Nat × Obj) := getM (carrier (y := fun P => @List.drop (Nat × Obj) 4 (rr20 P)) (by unfold rr20 getM; simp only [List.drop_succ_cons, List.drop_zero, List.take_succ_cons, List.take_zero, List.take_nil]; exact rfl))
noncomputable def kk21 : Params → List (Nat × Obj) := getM (carrier (y := fun P => @List.take (Nat × Obj) 4 (rr21 P)) (by unfold rr21 getM; simp only [List.drop_succ_cons, List.drop_zero, List.take_succ_cons, List.take_zero, List.take_nil]; exact rfl))
noncomputable def rr22 : Params → List (Nat × Obj) := getM (carrier (y := fun P => @List.drop (Nat × Obj) 4 (rr21 P)) (by unfold rr21 getM; simp only [List.drop_succ_cons, List.drop_zero, List.take_succ_cons, List.take_zero, List.take_nil]; exact rfl))
noncomputable def kk22 : Params → List (Nat × Obj) := getM (carrier (y := fun P => @List.take (Nat × Obj) 4 (rr22 P)) (by unfold rr22 getM; simp only [List.drop_succ_cons, List.drop_zero, List.take_succ_cons, List.take_zero, List.take_nil]; exact rfl))
noncomputable def rr23 : Params → List (Nat × Obj) := getM (carrier (y := fun P => @List.drop (Nat × Obj) 4 (rr22 P)) (by unfold rr22 getM; simp only [List.drop_succ_cons, List.drop_zero, List.take_succ_cons, List.take_zero, List.take_nil]; exact rfl))
noncomputable def kk23 : Params → List (Nat × Obj) := getM (carrier (y := fun P => @List.take (Nat × Obj) 4 (rr23 P)) (by unfold rr23 getM; simp only [List.drop_succ_cons, List.drop_zero, List.take_succ_cons, List.take_zero, List.take_nil]; exact rfl))
noncomputable def rr24 : Params → List (Nat × Obj) := getM (carrier (y := fun P => @List.drop (Nat × Obj) 4 (rr23 P)) (by unfold rr23 getM; simp only [List.drop_succ_cons, List.drop_zero, List.take_succ_cons, List.take_zero, List.take_nil]; exact rfl))
noncomputable def kk24 : Params → List (Nat × Obj) := getM (carrier (y := fun P => @List.take (Nat × Obj) 4 (rr24 P)) (by unfold rr24 getM; simp only [List.drop_succ_cons, List.drop_zero, List.take_succ_cons, List.take_zero, List.take_nil]; exact rfl))
noncomputable def rr25 : Params → List (Nat × Obj) := getM (carrier (y := fun P => @List.drop (Nat × Obj) 4 (rr24 P)) (by unfold rr24 getM; simp only [List.drop_succ_cons, List.drop_zero, List.take_succ_cons, List.take_zero, List.take_nil]; exact rfl))
noncomputable def kk25 : Params → List (Nat × Obj) := getM (carrier (y := fun P => @List.take (Nat × Obj) 4 (rr25 P)) (by unfold rr25 getM; simp only [List.drop_succ_cons, List.drop_zero, List.take_succ_cons, List.take_zero, List.take_nil]; exact rfl))
noncomputable def K2 : Params → Frag := fun P => kk0 P ++ (kk1 P ++ (kk2 P ++ (kk3 P ++ (kk4 P ++ (kk5 P ++ (kk6 P ++ (kk7 P ++ (kk8 P ++ (kk9 P ++ (kk10 P ++ (kk11 P ++ (kk12 P ++ (kk13 P ++ (kk14 P ++ (kk15 P ++ (kk16 P ++ (kk17 P ++ (kk18 P ++ (kk19 P ++ (kk20 P ++ (kk21 P ++ (kk22 P ++ (kk23 P ++ (kk24 P ++ (kk25 P)))))))))))))))))))))))))
noncomputable def as2 : List Nat := [2, 3, 15, 22, 24, 25, 27, 28, 29, 30, 31, 32, 35, 42, 43, 44, 47, 49, 50, 52, 53, 54, 56, 57, 59, 60, 61, 63, 64, 66, 67, 68, 70, 71, 73, 74, 82, 84, 85, 87, 88, 89, 91, 92, 94, 95, 96, 98, 99, 101, 102, 103, 105, 106, 108, 109, 110, 112, 113, 115, 116, 117, 120, 121, 122, 125, 126, 127, 129, 130, 132, 133, 134, 137, 138, 139, 140, 141, 142, 143, 146, 148, 149, 151, 152, 153, 156, 157, 158, 160, 161, 163, 164, 165, 167, 168, 170, 171, 172, 174, 175, 177, 178]
theorem XL_holds (h : XL.Holds) : PySem.Challenge.rw_sj0173_01.Holds := XL_eq ▸ h
theorem K2_eq : ∀ P, K2 P = pre1.heap_1 P := fun P => by kernel_rfl
noncomputable def HK : Hook := kHook K2 as2 (fun _ => by kernel_rfl)
section
local macro_rules | `(tactic| k_head) => `(tactic| o_head Mine.HK)
open_top hd1 for Mine.XL
end
theorem room3 {n a b d c : Nat} (h : n + d < c) (e : Nat.ble (a + b) d = true) : n + a + b < c := by have := Nat.le_of_ble_eq_true e; omega
theorem room2 {n a d c : Nat} (h : n + d < c) (e : Nat.ble a d = true) : n + a < c := by have := Nat.le_of_ble_eq_true e; omega
theorem room1 {n d c : Nat} (h : n + d < c) : n < c := by omega
noncomputable abbrev Led := List (Addr × Obj)
noncomputable def Ctr (prog : Program) (w : World) (K : Frag) (p : Program) (loose : List Str) (mean : ExcName → Option Value) (mg mb : Str → Option Value) (f : Addr) (d0 u0 : Nat) (news : Led) (vs : List Value) (Post : Value → Led → Prop) : Prop :=
  ∀ (dp un : Nat) (gd : Option (List Code)) (cn : Str) (cs : Scope) (a : Addr) (ccd : Value) (cl : List (Str × Addr)) (outer : List Env) (A₀ : Around) (base h₀ : Heap) (L : Addr) (m : Str → Option Value) (s : Shared) (Q E : Value → Shared → Prop),
    Below A₀ base outer h₀ → Fr h₀ L s.heap m → K.In h₀ → News h₀ L s.heap news → Top p loose mean mg mb h₀ → cs.kind = .function → dp + d0 < recursionLimit → un + u0 < cLine →
    (∀ r news' h' tk', Fr h₀ L h' m → News h₀ L h' news' → Post r news' → Q r { s with heap := h', toks := tk' }) →
    wpAny (model prog w) (ktrTop dp un gd cn cs L a ccd cl outer) (call (.ref f) vs) Q E s

theorem e_never {M : Model} {A : Around} {α : Type} {t : Sem α} {Q : α → Shared → Prop} {E : Value → Shared → Prop} {s : Shared} (h : wpAny M A t Q (fun _ _ => False) s) : wpAny M A t Q E s := wpAny_mono h (fun _ _ q => q) fun _ _ e => e.elim
section
variable {prog : Program} {w : World} {K : Frag} {p : Program} {loose : List Str} {mean : ExcName → Option Value} {mg mb : Str → Option Value} {f : Addr} {d0 u0 : Nat} {news : Led} {vs : List Value} {Post : Value → Led → Prop}
theorem Ctr.use {dp un : Nat} {gd : Option (List Code)} {cn : Str} {cs : Scope} {a : Addr} {ccd : Value} {cl : List (Str × Addr)} {outer : List Env} {A₀ : Around} {base h₀ : Heap} {L : Addr} {m : Str → Option Value} {s : Shared} {Q E : Value → Shared → Prop}
    (C : Ctr prog w K p loose mean mg mb f d0 u0 news vs Post)
    (B : Below A₀ base outer h₀) (F : Fr h₀ L s.heap m) (X : K.In h₀) (N : News h₀ L s.heap news) (T : Top p loose mean mg mb h₀) (hk : cs.kind = .function)
    (hd : dp + d0 < recursionLimit) (hu : un + u0 < cLine)
    (ret : ∀ r news' h' tk', Fr h₀ L h' m → News h₀ L h' news' → Post r news' → Q r { s with heap := h', toks := tk' }) :
    wpAny (model prog w) (ktrTop dp un gd cn cs L a ccd cl outer) (call (.ref f) vs) Q E s := C _ _ _ _ _ _ _ _ _ _ _ _ _ _ _ _ _ B F X N T hk hd hu ret

theorem my_notin {A : Around} {E : Value → Shared → Prop} {s : Shared} {h₀ : Heap} {L d : Addr} {o : Obj} {kvs : List (Int × Value)} {k : Int} {t : Tok} {Q : Value → Shared → Prop} (N : News h₀ L s.heap news) (hp : (d, o) ∈ news) (hd : o.IsDictOf (PySem.intKind prog w) kvs) (lo : (d == sysModules) = false) (b : Bool) (hb : (valueAt kvs k).isSome = b)
    (h : Q (.bool (!b)) { s with toks := s.toks + 1 }) : wpAny (model prog w) A (compareOp .NotIn (.int k t) (.ref d)) Q E s :=
  wpAny_notIn_of (intKind_is _ _ _ _) lo (kda_dict N hp hd).mapOf (by rw [hb]; exact h)
theorem my_in {A : Around} {E : Value → Shared → Prop} {s : Shared} {h₀ : Heap} {L d : Addr} {o : Obj} {kvs : List (Int × Value)} {k : Int} {t : Tok} {Q : Value → Shared → Prop} (N : News h₀ L s.heap news) (hp : (d, o) ∈ news) (hd : o.IsDictOf (PySem.intKind prog w) kvs) (lo : (d == sysModules) = false) (b : Bool) (hb : (valueAt kvs k).isSome = b)
    (h : Q (.bool b) { s with toks := s.toks + 1 }) : wpAny (model prog w) A (compareOp .In (.int k t) (.ref d)) Q E s :=
  wpAny_in_of (intKind_is _ _ _ _) lo (kda_dict N hp hd).mapOf (by rw [hb]; exact h)
end

noncomputable abbrev tupO (l : List Value) : Obj := { cls := .type "tuple", data := .seq l.toArray }

/-- one way's row -/
structure Row where
  fine : Int
  since : Int
  out : Bool

noncomputable def RowAt (news : Led) (kvs : List (Int × Value)) (k : Int) : Option Row → Prop
  | none => valueAt kvs k = none
  | some q => ∃ t t1 t2, valueAt kvs k = some (.ref t) ∧ (t, tupO [.int q.fine t1, .int q.since t2, .bool q.out]) ∈ news

structure DmpAt (w : World) (news : Led) (d dx c r : Addr) (oc orr : Obj) (kc : List (Str × Value)) (kvs : List (Int × Value)) (top : Int) : Prop where
  hd : (d, instObj 141 dx) ∈ news
  hx : ∃ x1 y1 x2 y2 x3 y3 y4, (dx, dictOf [⟨x1, .str (Str.ofString "config") y1, .ref c⟩, ⟨x2, .str (Str.ofString "rows") y2, .ref r⟩, ⟨x3, .str (Str.ofString "top") y3, .int top y4⟩] 3) ∈ news
  hc : (c, oc) ∈ news
  hcd : oc.IsDictOf (PySem.strKind Mine.XL.row.prog w) kc
  hr : (r, orr) ∈ news
  hrd : orr.IsDictOf (PySem.intKind Mine.XL.row.prog w) kvs
  hrs : (r == sysModules) = false
  hlen : kvs.length ≤ 100

noncomputable def CfgIs (kc : List (Str × Value)) (x : Str) (v : Int) : Prop := ∃ t, valueAt kc x = some (.int v t)

noncomputable def dec (p s h : Int) : Int := ((p * (2 * h - s.fmod h)).fdiv (2 * h)).fdiv (2 ^ (s.fdiv h).toNat)
noncomputable def penR (h : Int) : Option Row → Int → Int
  | none, _ => 0
  | some q, now => dec q.fine (now - q.since) h
/-- what a row must be -/
noncomputable def RowOk (now : Int) : Option Row → Prop
  | none => True
  | some q => 0 ≤ q.fine ∧ q.fine < 1000000 ∧ 0 ≤ now - q.since ∧ now - q.since < 1000

theorem fdiv_nn {a b : Int} (ha : 0 ≤ a) (hb : 1 ≤ b) : 0 ≤ a.fdiv b := by
  rw [Int.fdiv_eq_ediv_of_nonneg _ (by omega)]
  exact Int.ediv_nonneg ha (by omega)
noncomputable abbrev CtrL (w : World) (mean : ExcName → Option Value) (mg mb : Str → Option Value) (f : Addr) (d0 u0 : Nat) (news : Led) (vs : List Value) (Post : Value → Led → Prop) : Prop :=
  Ctr Mine.XL.row.prog w (pre1.heap_1 w.params) hd1.view_39 (looseW hd1.view_39 []) mean mg mb f d0 u0 news vs Post

structure Stop (P : Prop) : Prop where
  intro ::
  out : P
theorem Stop.mk {P : Prop} (h : Stop P) : P := h.out
theorem Stop.go {P : Prop} (h : P) : Stop P := ⟨h⟩
section
variable {d : Addr} {o : Obj} {l : Led} {g : Obj → Led}
theorem updF_upd (U : UpdF d o l g) (o' : Obj) : Upd d o o' l (g o') := by
  induction U with
  | head h => exact .head h
  | tail h _ ih => exact .tail h ih
theorem updF_new (U : UpdF d o l g) (o' : Obj) : (d, o') ∈ g o' := by
  obtain ⟨pre, post, _, hg, _, _⟩ := U.split
  rw [hg]
  exact List.mem_append_right _ (.head _)
theorem updF_mem (U : UpdF d o l g) : (d, o) ∈ l := by
  obtain ⟨pre, post, e, _, _, _⟩ := U.split
  rw [e]
  exact List.mem_append_right _ (.head _)
theorem updF_old (U : UpdF d o l g) {o' : Obj} {x : Addr} {ox : Obj} (h : (x, ox) ∈ l) (n : x ≠ d) : (x, ox) ∈ g o' := by
  obtain ⟨pre, post, e, hg, _, _⟩ := U.split
  rw [hg]
  rw [e] at h
  rcases List.mem_append.mp h with h | h
  · exact List.mem_append_left _ h
  · rcases List.mem_cons.mp h with h | h
    · exact absurd (congrArg Prod.fst h) n
    · exact List.mem_append_right _ (.tail _ h)
theorem updF_addr (U : UpdF d o l g) {o' : Obj} {x : Addr × Obj} (h : x ∈ g o') : ∃ y ∈ l, y.1 = x.1 := by
  obtain ⟨pre, post, e, hg, _, _⟩ := U.split
  rw [hg] at h
  rw [e]
  rcases List.mem_append.mp h with h | h
  · exact ⟨x, List.mem_append_left _ h, rfl⟩
  · rcases List.mem_cons.mp h with h | h
    · subst h; exact ⟨(d, o), List.mem_append_right _ (.head _), rfl⟩
    · exact ⟨x, List.mem_append_right _ (.tail _ h), rfl⟩
end
theorem fmod_bounds {a b : Int} (hb : 1 ≤ b) : 0 ≤ a.fmod b ∧ a.fmod b < b := by
  rw [Int.fmod_eq_emod_of_nonneg _ (by omega)]
  exact ⟨Int.emod_nonneg _ (by omega), Int.emod_lt_of_pos _ (by omega)⟩
section
variable {prog : Program} {w : World} {A : Around} {E : Value → Shared → Prop} {s : Shared} {h₀ : Heap} {L : Addr} {m : Str → Option Value} {news : Led}
theorem my_min3 {a b c : Int} {t u x : Tok} {Q : Value → Shared → Prop} (hh : A.handled = none) (F : Fr h₀ L s.heap m) (N : News h₀ L s.heap news)
    (h : ∀ v tv h' tk, (0 ≤ a ∧ 0 ≤ b ∧ 0 ≤ c → 0 ≤ v) → Fr h₀ L h' m → News h₀ L h' news → Q (.int v tv) { s with heap := h', toks := tk }) :
    wpAny (model prog w) A (call (.builtin "min") [.int a t, .int b u, .int c x]) Q E s :=
  min_three_ints hh fun h' tk hk => by
    have F' := F.grownK hk
    have N' : News h₀ L h' news := N.grown hk
    by_cases c1 : b < a
    · by_cases c2 : c < b
      · simp only [if_pos c1, if_pos c2]; exact h _ _ _ _ (fun q => q.2.2) F' N'
      · simp only [if_pos c1, if_neg c2]; exact h _ _ _ _ (fun q => q.2.1) F' N'
    · by_cases c2 : c < a
      · simp only [if_neg c1, if_pos c2]; exact h _ _ _ _ (fun q => q.2.2) F' N'
      · simp only [if_neg c1, if_neg c2]; exact h _ _ _ _ (fun q => q.1) F' N'
end
theorem my_ne {news : Led} {D r : Addr} {o : Obj} (h : ∀ p ∈ news, p.1 < D) (hm : (r, o) ∈ news) : (D : Nat) ≠ r := Nat.ne_of_gt (h _ hm)
theorem tup_eq {D : Addr} {x : Led} {f f' : Int} {t1 : Tok} {s : Value} {b b' : Bool} (e1 : f = f') (e2 : b = b') : (D, tupO [.int f t1, s, .bool b]) :: x = (D, tupO [.int f' t1, s, .bool b']) :: x := by rw [e1, e2]
theorem tok_any {α : Type} {M : Model} {A : Around} {t : Sem α} {Q : α → Shared → Prop} {E : Value → Shared → Prop} {hp : Heap} {g : Array GenState} {d : Drawn} {os : OsState} {X : Nat} (h : ∀ tk, wpAny M A t Q E ⟨hp, g, d, tk, os⟩) : wpAny M A t Q E ⟨hp, g, d, X, os⟩ := h X
theorem DmpAt.mono {w : World} {news news' : Led} {d dx c r : Addr} {oc orr : Obj} {kc : List (Str × Value)} {kvs : List (Int × Value)} {top : Int} (D : DmpAt w news d dx c r oc orr kc kvs top) (h : ∀ p ∈ news, p ∈ news') : DmpAt w news' d dx c r oc orr kc kvs top :=
  ⟨h _ D.hd, let ⟨x1, y1, x2, y2, x3, y3, y4, q⟩ := D.hx; ⟨x1, y1, x2, y2, x3, y3, y4, h _ q⟩, h _ D.hc, D.hcd, h _ D.hr, D.hrd, D.hrs, D.hlen⟩
theorem RowAt.mono {news news' : Led} {kvs : List (Int × Value)} {k : Int} {row : Option Row} (R : RowAt news kvs k row) (h : ∀ p ∈ news, p ∈ news') : RowAt news' kvs k row := by
  cases row with
  | none => exact R
  | some q => obtain ⟨t, t1, t2, e, hm⟩ := R; exact ⟨t, t1, t2, e, h _ hm⟩
theorem ex0_2 {p1 p2 : Prop} (h : p1 ∧ p2) {P : Prop} (k : p1 → p2 → P) : P := by
  obtain ⟨h1, h2⟩ := h
  exact k h1 h2
theorem ex0_3 {p1 p2 p3 : Prop} (h : p1 ∧ p2 ∧ p3) {P : Prop} (k : p1 → p2 → p3 → P) : P := by
  obtain ⟨h1, h2, h3⟩ := h
  exact k h1 h2 h3
theorem ex1_2 {α1 : Type} {p1 p2 : α1 → Prop} (h : ∃ a1, p1 a1 ∧ p2 a1) {P : Prop} (k : ∀ a1, p1 a1 → p2 a1 → P) : P := by
  obtain ⟨a1, h1, h2⟩ := h
  exact k a1 h1 h2
theorem ex1_3 {α1 : Type} {p1 p2 p3 : α1 → Prop} (h : ∃ a1, p1 a1 ∧ p2 a1 ∧ p3 a1) {P : Prop} (k : ∀ a1, p1 a1 → p2 a1 → p3 a1 → P) : P := by
  obtain ⟨a1, h1, h2, h3⟩ := h
  exact k a1 h1 h2 h3
theorem ex2_2 {α1 : Type} {α2 : Type} {p1 p2 : α1 → α2 → Prop} (h : ∃ a1 a2, p1 a1 a2 ∧ p2 a1 a2) {P : Prop} (k : ∀ a1 a2, p1 a1 a2 → p2 a1 a2 → P) : P := by
  obtain ⟨a1, a2, h1, h2⟩ := h
  exact k a1 a2 h1 h2
theorem ex2_3 {α1 : Type} {α2 : Type} {p1 p2 p3 : α1 → α2 → Prop} (h : ∃ a1 a2, p1 a1 a2 ∧ p2 a1 a2 ∧ p3 a1 a2) {P : Prop} (k : ∀ a1 a2, p1 a1 a2 → p2 a1 a2 → p3 a1 a2 → P) : P := by
  obtain ⟨a1, a2, h1, h2, h3⟩ := h
  exact k a1 a2 h1 h2 h3
theorem ex2_5 {α1 : Type} {α2 : Type} {p1 p2 p3 p4 p5 : α1 → α2 → Prop} (h : ∃ a1 a2, p1 a1 a2 ∧ p2 a1 a2 ∧ p3 a1 a2 ∧ p4 a1 a2 ∧ p5 a1 a2) {P : Prop} (k : ∀ a1 a2, p1 a1 a2 → p2 a1 a2 → p3 a1 a2 → p4 a1 a2 → p5 a1 a2 → P) : P := by
  obtain ⟨a1, a2, h1, h2, h3, h4, h5⟩ := h
  exact k a1 a2 h1 h2 h3 h4 h5
theorem ex2_6 {α1 : Type} {α2 : Type} {p1 p2 p3 p4 p5 p6 : α1 → α2 → Prop} (h : ∃ a1 a2, p1 a1 a2 ∧ p2 a1 a2 ∧ p3 a1 a2 ∧ p4 a1 a2 ∧ p5 a1 a2 ∧ p6 a1 a2) {P : Prop} (k : ∀ a1 a2, p1 a1 a2 → p2 a1 a2 → p3 a1 a2 → p4 a1 a2 → p5 a1 a2 → p6 a1 a2 → P) : P := by
  obtain ⟨a1, a2, h1, h2, h3, h4, h5, h6⟩ := h
  exact k a1 a2 h1 h2 h3 h4 h5 h6
theorem ex3_2 {α1 : Type} {α2 : Type} {α3 : Type} {p1 p2 : α1 → α2 → α3 → Prop} (h : ∃ a1 a2 a3, p1 a1 a2 a3 ∧ p2 a1 a2 a3) {P : Prop} (k : ∀ a1 a2 a3, p1 a1 a2 a3 → p2 a1 a2 a3 → P) : P := by
  obtain ⟨a1, a2, a3, h1, h2⟩ := h
  exact k a1 a2 a3 h1 h2
theorem ex3_6 {α1 : Type} {α2 : Type} {α3 : Type} {p1 p2 p3 p4 p5 p6 : α1 → α2 → α3 → Prop} (h : ∃ a1 a2 a3, p1 a1 a2 a3 ∧ p2 a1 a2 a3 ∧ p3 a1 a2 a3 ∧ p4 a1 a2 a3 ∧ p5 a1 a2 a3 ∧ p6 a1 a2 a3) {P : Prop} (k : ∀ a1 a2 a3, p1 a1 a2 a3 → p2 a1 a2 a3 → p3 a1 a2 a3 → p4 a1 a2 a3 → p5 a1 a2 a3 → p6 a1 a2 a3 → P) : P := by
  obtain ⟨a1, a2, a3, h1, h2, h3, h4, h5, h6⟩ := h
  exact k a1 a2 a3 h1 h2 h3 h4 h5 h6
theorem ex4_6 {α1 : Type} {α2 : Type} {α3 : Type} {α4 : Type} {p1 p2 p3 p4 p5 p6 : α1 → α2 → α3 → α4 → Prop} (h : ∃ a1 a2 a3 a4, p1 a1 a2 a3 a4 ∧ p2 a1 a2 a3 a4 ∧ p3 a1 a2 a3 a4 ∧ p4 a1 a2 a3 a4 ∧ p5 a1 a2 a3 a4 ∧ p6 a1 a2 a3 a4) {P : Prop} (k : ∀ a1 a2 a3 a4, p1 a1 a2 a3 a4 → p2 a1 a2 a3 a4 → p3 a1 a2 a3 a4 → p4 a1 a2 a3 a4 → p5 a1 a2 a3 a4 → p6 a1 a2 a3 a4 → P) : P := by
  obtain ⟨a1, a2, a3, a4, h1, h2, h3, h4, h5, h6⟩ := h
  exact k a1 a2 a3 a4 h1 h2 h3 h4 h5 h6
theorem ex5_3 {α1 : Type} {α2 : Type} {α3 : Type} {α4 : Type} {α5 : Type} {p1 p2 p3 : α1 → α2 → α3 → α4 → α5 → Prop} (h : ∃ a1 a2 a3 a4 a5, p1 a1 a2 a3 a4 a5 ∧ p2 a1 a2 a3 a4 a5 ∧ p3 a1 a2 a3 a4 a5) {P : Prop} (k : ∀ a1 a2 a3 a4 a5, p1 a1 a2 a3 a4 a5 → p2 a1 a2 a3 a4 a5 → p3 a1 a2 a3 a4 a5 → P) : P := by
  obtain ⟨a1, a2, a3, a4, a5, h1, h2, h3⟩ := h
  exact k a1 a2 a3 a4 a5 h1 h2 h3
theorem ex5_5 {α1 : Type} {α2 : Type} {α3 : Type} {α4 : Type} {α5 : Type} {p1 p2 p3 p4 p5 : α1 → α2 → α3 → α4 → α5 → Prop} (h : ∃ a1 a2 a3 a4 a5, p1 a1 a2 a3 a4 a5 ∧ p2 a1 a2 a3 a4 a5 ∧ p3 a1 a2 a3 a4 a5 ∧ p4 a1 a2 a3 a4 a5 ∧ p5 a1 a2 a3 a4 a5) {P : Prop} (k : ∀ a1 a2 a3 a4 a5, p1 a1 a2 a3 a4 a5 → p2 a1 a2 a3 a4 a5 → p3 a1 a2 a3 a4 a5 → p4 a1 a2 a3 a4 a5 → p5 a1 a2 a3 a4 a5 → P) : P := by
  obtain ⟨a1, a2, a3, a4, a5, h1, h2, h3, h4, h5⟩ := h
  exact k a1 a2 a3 a4 a5 h1 h2 h3 h4 h5
theorem ex5_7 {α1 : Type} {α2 : Type} {α3 : Type} {α4 : Type} {α5 : Type} {p1 p2 p3 p4 p5 p6 p7 : α1 → α2 → α3 → α4 → α5 → Prop} (h : ∃ a1 a2 a3 a4 a5, p1 a1 a2 a3 a4 a5 ∧ p2 a1 a2 a3 a4 a5 ∧ p3 a1 a2 a3 a4 a5 ∧ p4 a1 a2 a3 a4 a5 ∧ p5 a1 a2 a3 a4 a5 ∧ p6 a1 a2 a3 a4 a5 ∧ p7 a1 a2 a3 a4 a5) {P : Prop} (k : ∀ a1 a2 a3 a4 a5, p1 a1 a2 a3 a4 a5 → p2 a1 a2 a3 a4 a5 → p3 a1 a2 a3 a4 a5 → p4 a1 a2 a3 a4 a5 → p5 a1 a2 a3 a4 a5 → p6 a1 a2 a3 a4 a5 → p7 a1 a2 a3 a4 a5 → P) : P := by
  obtain ⟨a1, a2, a3, a4, a5, h1, h2, h3, h4, h5, h6, h7⟩ := h
  exact k a1 a2 a3 a4 a5 h1 h2 h3 h4 h5 h6 h7
theorem ex6_9 {α1 : Type} {α2 : Type} {α3 : Type} {α4 : Type} {α5 : Type} {α6 : Type} {p1 p2 p3 p4 p5 p6 p7 p8 p9 : α1 → α2 → α3 → α4 → α5 → α6 → Prop} (h : ∃ a1 a2 a3 a4 a5 a6, p1 a1 a2 a3 a4 a5 a6 ∧ p2 a1 a2 a3 a4 a5 a6 ∧ p3 a1 a2 a3 a4 a5 a6 ∧ p4 a1 a2 a3 a4 a5 a6 ∧ p5 a1 a2 a3 a4 a5 a6 ∧ p6 a1 a2 a3 a4 a5 a6 ∧ p7 a1 a2 a3 a4 a5 a6 ∧ p8 a1 a2 a3 a4 a5 a6 ∧ p9 a1 a2 a3 a4 a5 a6) {P : Prop} (k : ∀ a1 a2 a3 a4 a5 a6, p1 a1 a2 a3 a4 a5 a6 → p2 a1 a2 a3 a4 a5 a6 → p3 a1 a2 a3 a4 a5 a6 → p4 a1 a2 a3 a4 a5 a6 → p5 a1 a2 a3 a4 a5 a6 → p6 a1 a2 a3 a4 a5 a6 → p7 a1 a2 a3 a4 a5 a6 → p8 a1 a2 a3 a4 a5 a6 → p9 a1 a2 a3 a4 a5 a6 → P) : P := by
  obtain ⟨a1, a2, a3, a4, a5, a6, h1, h2, h3, h4, h5, h6, h7, h8, h9⟩ := h
  exact k a1 a2 a3 a4 a5 a6 h1 h2 h3 h4 h5 h6 h7 h8 h9
theorem ex6_10 {α1 : Type} {α2 : Type} {α3 : Type} {α4 : Type} {α5 : Type} {α6 : Type} {p1 p2 p3 p4 p5 p6 p7 p8 p9 p10 : α1 → α2 → α3 → α4 → α5 → α6 → Prop} (h : ∃ a1 a2 a3 a4 a5 a6, p1 a1 a2 a3 a4 a5 a6 ∧ p2 a1 a2 a3 a4 a5 a6 ∧ p3 a1 a2 a3 a4 a5 a6 ∧ p4 a1 a2 a3 a4 a5 a6 ∧ p5 a1 a2 a3 a4 a5 a6 ∧ p6 a1 a2 a3 a4 a5 a6 ∧ p7 a1 a2 a3 a4 a5 a6 ∧ p8 a1 a2 a3 a4 a5 a6 ∧ p9 a1 a2 a3 a4 a5 a6 ∧ p10 a1 a2 a3 a4 a5 a6) {P : Prop} (k : ∀ a1 a2 a3 a4 a5 a6, p1 a1 a2 a3 a4 a5 a6 → p2 a1 a2 a3 a4 a5 a6 → p3 a1 a2 a3 a4 a5 a6 → p4 a1 a2 a3 a4 a5 a6 → p5 a1 a2 a3 a4 a5 a6 → p6 a1 a2 a3 a4 a5 a6 → p7 a1 a2 a3 a4 a5 a6 → p8 a1 a2 a3 a4 a5 a6 → p9 a1 a2 a3 a4 a5 a6 → p10 a1 a2 a3 a4 a5 a6 → P) : P := by
  obtain ⟨a1, a2, a3, a4, a5, a6, h1, h2, h3, h4, h5, h6, h7, h8, h9, h10⟩ := h
  exact k a1 a2 a3 a4 a5 a6 h1 h2 h3 h4 h5 h6 h7 h8 h9 h10
theorem ex7_1 {α1 : Type} {α2 : Type} {α3 : Type} {α4 : Type} {α5 : Type} {α6 : Type} {α7 : Type} {p1 : α1 → α2 → α3 → α4 → α5 → α6 → α7 → Prop} (h : ∃ a1 a2 a3 a4 a5 a6 a7, p1 a1 a2 a3 a4 a5 a6 a7) {P : Prop} (k : ∀ a1 a2 a3 a4 a5 a6 a7, p1 a1 a2 a3 a4 a5 a6 a7 → P) : P := by
  obtain ⟨a1, a2, a3, a4, a5, a6, a7, h1⟩ := h
  exact k a1 a2 a3 a4 a5 a6 a7 h1
theorem ex7_9 {α1 : Type} {α2 : Type} {α3 : Type} {α4 : Type} {α5 : Type} {α6 : Type} {α7 : Type} {p1 p2 p3 p4 p5 p6 p7 p8 p9 : α1 → α2 → α3 → α4 → α5 → α6 → α7 → Prop} (h : ∃ a1 a2 a3 a4 a5 a6 a7, p1 a1 a2 a3 a4 a5 a6 a7 ∧ p2 a1 a2 a3 a4 a5 a6 a7 ∧ p3 a1 a2 a3 a4 a5 a6 a7 ∧ p4 a1 a2 a3 a4 a5 a6 a7 ∧ p5 a1 a2 a3 a4 a5 a6 a7 ∧ p6 a1 a2 a3 a4 a5 a6 a7 ∧ p7 a1 a2 a3 a4 a5 a6 a7 ∧ p8 a1 a2 a3 a4 a5 a6 a7 ∧ p9 a1 a2 a3 a4 a5 a6 a7) {P : Prop} (k : ∀ a1 a2 a3 a4 a5 a6 a7, p1 a1 a2 a3 a4 a5 a6 a7 → p2 a1 a2 a3 a4 a5 a6 a7 → p3 a1 a2 a3 a4 a5 a6 a7 → p4 a1 a2 a3 a4 a5 a6 a7 → p5 a1 a2 a3 a4 a5 a6 a7 → p6 a1 a2 a3 a4 a5 a6 a7 → p7 a1 a2 a3 a4 a5 a6 a7 → p8 a1 a2 a3 a4 a5 a6 a7 → p9 a1 a2 a3 a4 a5 a6 a7 → P) : P := by
  obtain ⟨a1, a2, a3, a4, a5, a6, a7, h1, h2, h3, h4, h5, h6, h7, h8, h9⟩ := h
  exact k a1 a2 a3 a4 a5 a6 a7 h1 h2 h3 h4 h5 h6 h7 h8 h9
theorem ex9_8 {α1 : Type} {α2 : Type} {α3 : Type} {α4 : Type} {α5 : Type} {α6 : Type} {α7 : Type} {α8 : Type} {α9 : Type} {p1 p2 p3 p4 p5 p6 p7 p8 : α1 → α2 → α3 → α4 → α5 → α6 → α7 → α8 → α9 → Prop} (h : ∃ a1 a2 a3 a4 a5 a6 a7 a8 a9, p1 a1 a2 a3 a4 a5 a6 a7 a8 a9 ∧ p2 a1 a2 a3 a4 a5 a6 a7 a8 a9 ∧ p3 a1 a2 a3 a4 a5 a6 a7 a8 a9 ∧ p4 a1 a2 a3 a4 a5 a6 a7 a8 a9 ∧ p5 a1 a2 a3 a4 a5 a6 a7 a8 a9 ∧ p6 a1 a2 a3 a4 a5 a6 a7 a8 a9 ∧ p7 a1 a2 a3 a4 a5 a6 a7 a8 a9 ∧ p8 a1 a2 a3 a4 a5 a6 a7 a8 a9) {P : Prop} (k : ∀ a1 a2 a3 a4 a5 a6 a7 a8 a9, p1 a1 a2 a3 a4 a5 a6 a7 a8 a9 → p2 a1 a2 a3 a4 a5 a6 a7 a8 a9 → p3 a1 a2 a3 a4 a5 a6 a7 a8 a9 → p4 a1 a2 a3 a4 a5 a6 a7 a8 a9 → p5 a1 a2 a3 a4 a5 a6 a7 a8 a9 → p6 a1 a2 a3 a4 a5 a6 a7 a8 a9 → p7 a1 a2 a3 a4 a5 a6 a7 a8 a9 → p8 a1 a2 a3 a4 a5 a6 a7 a8 a9 → P) : P := by
  obtain ⟨a1, a2, a3, a4, a5, a6, a7, a8, a9, h1, h2, h3, h4, h5, h6, h7, h8⟩ := h
  exact k a1 a2 a3 a4 a5 a6 a7 a8 a9 h1 h2 h3 h4 h5 h6 h7 h8
theorem two_pow_pos (n : Nat) : (0 : Int) < 2 ^ n := Int.pow_pos (by decide)
theorem two_pow_mono {a b : Nat} (k : a ≤ b) : (2 : Int) ^ a ≤ 2 ^ b := by
  have h := Nat.pow_le_pow_right (show 0 < 2 by decide) k
  exact_mod_cast h
theorem dec_eq {p s h : Int} (hh : 1 ≤ h) : dec p s h = p * (2 * h - s % h) / (2 * h * 2 ^ (s / h).toNat) := by
  have h2 := two_pow_pos (s / h).toNat
  unfold dec
  rw [Int.fdiv_eq_ediv_of_nonneg s (by omega), Int.fmod_eq_emod_of_nonneg s (by omega), Int.fdiv_eq_ediv_of_nonneg _ (by omega), Int.fdiv_eq_ediv_of_nonneg _ (by omega), Int.ediv_ediv, if_neg (fun q => by omega), Int.sub_zero]
/-- the one fact that all others come from -/
theorem lt_dec {p s h g : Int} (hh : 1 ≤ h) : g < dec p s h ↔ (g + 1) * (2 * h * 2 ^ (s / h).toNat) ≤ p * (2 * h - s % h) := by
  have h2 := two_pow_pos (s / h).toNat
  have h3 : 0 < 2 * h * 2 ^ (s / h).toNat := Int.mul_pos (by omega) h2
  rw [dec_eq hh, Int.lt_iff_add_one_le, Int.le_ediv_iff_mul_le h3]
theorem dec_le_of {p s h p' s' h' : Int} (k : ∀ g, g < dec p s h → g < dec p' s' h') : dec p s h ≤ dec p' s' h' := by
  have := k (dec p s h - 1) (by omega)
  omega
theorem dec_nn {p s h : Int} (hp : 0 ≤ p) (hh : 1 ≤ h) : 0 ≤ dec p s h := by
  have : -1 < dec p s h := (lt_dec hh).mpr (by
    have := Int.emod_lt_of_pos s (show 0 < h by omega)
    have h1 : 0 ≤ p * (2 * h - s % h) := Int.mul_nonneg hp (by omega)
    simpa using h1)
  omega
theorem dec_mono {p p' s h : Int} (hh : 1 ≤ h) (hp : p ≤ p') : dec p s h ≤ dec p' s h := dec_le_of fun g hg => by
  rw [lt_dec hh] at hg ⊢
  have := Int.emod_lt_of_pos s (show 0 < h by omega)
  exact Int.le_trans hg (Int.mul_le_mul_of_nonneg_right hp (by omega))
theorem dec_zero {p h : Int} (hh : 1 ≤ h) : dec p 0 h = p := by
  rw [dec_eq hh]
  simp only [Int.zero_emod, Int.zero_ediv, Int.sub_zero, Int.toNat_zero, Int.pow_zero, Int.mul_one]
  exact Int.mul_ediv_cancel _ (by omega)
theorem dm_next {s h : Int} (hh : 1 ≤ h) : ((s + 1) / h = s / h ∧ (s + 1) % h = s % h + 1) ∨ ((s + 1) / h = s / h + 1 ∧ (s + 1) % h = 0 ∧ s % h = h - 1) := by
  have e := Int.mul_ediv_add_emod s h
  have hr := Int.emod_lt_of_pos s (show 0 < h by omega)
  have hr0 := Int.emod_nonneg s (show h ≠ 0 by omega)
  by_cases c : s % h + 1 < h
  · left
    have e2 : s + 1 = (s % h + 1) + h * (s / h) := by omega
    constructor
    · rw [e2, Int.add_mul_ediv_left _ _ (by omega), Int.ediv_eq_zero_of_lt (by omega) c, Int.zero_add]
    · rw [e2, Int.add_mul_emod_self_left, Int.emod_eq_of_lt (by omega) c]
  · right
    have e2 : s + 1 = h * (s / h + 1) := by rw [Int.mul_add, Int.mul_one]; omega
    refine ⟨?_, ?_, by omega⟩
    · rw [e2, Int.mul_ediv_cancel_left _ (by omega)]
    · rw [e2, Int.mul_emod_right]
theorem toNat_succ {t : Int} (ht : 0 ≤ t) : (t + 1).toNat = t.toNat + 1 := by omega
theorem dec_step {p s h : Int} (hp : 0 ≤ p) (hs : 0 ≤ s) (hh : 1 ≤ h) : dec p (s + 1) h ≤ dec p s h := dec_le_of fun g hg => by
  rw [lt_dec hh] at hg ⊢
  have ht : 0 ≤ s / h := Int.ediv_nonneg hs (by omega)
  have hr0 := Int.emod_nonneg s (show h ≠ 0 by omega)
  have hr := Int.emod_lt_of_pos s (show 0 < h by omega)
  rcases dm_next hh with ⟨e1, e2⟩ | ⟨e1, e2, e3⟩
  · rw [e1, e2] at hg
    exact Int.le_trans hg (Int.mul_le_mul_of_nonneg_left (by omega) hp)
  · rw [e1, e2, toNat_succ ht, Int.pow_succ] at hg
    rw [e3]
    have h3 : (g + 1) * (2 * h * 2 ^ (s / h).toNat) * 2 ≤ (p * h) * 2 := by
      have e4 : (g + 1) * (2 * h * (2 ^ (s / h).toNat * 2)) = (g + 1) * (2 * h * 2 ^ (s / h).toNat) * 2 := by rw [← Int.mul_assoc (2 * h), ← Int.mul_assoc (g + 1)]
      have e5 : p * (2 * h - 0) = p * h * 2 := by rw [Int.sub_zero, Int.mul_comm 2 h, ← Int.mul_assoc]
      rw [e4, e5] at hg
      exact hg
    have h4 : p * (2 * h - (h - 1)) = p * h + p := by rw [show 2 * h - (h - 1) = h + 1 by omega, Int.mul_add, Int.mul_one]
    rw [h4]
    omega
theorem dec_anti {p s s' h : Int} (hp : 0 ≤ p) (hs : 0 ≤ s) (hh : 1 ≤ h) (hss : s ≤ s') : dec p s' h ≤ dec p s h := by
  have all : ∀ n : Nat, dec p (s + n) h ≤ dec p s h := by
    intro n
    induction n with
    | zero => simp
    | succ n ih =>
      have := dec_step (p := p) (s := s + n) (h := h) hp (by omega) hh
      have e : s + ((n + 1 : Nat) : Int) = s + n + 1 := by omega
      rw [e]
      omega
  have := all (s' - s).toNat
  have e : s + ((s' - s).toNat : Int) = s' := by omega
  rwa [e] at this
theorem dec_le {p s h : Int} (hp : 0 ≤ p) (hs : 0 ≤ s) (hh : 1 ≤ h) : dec p s h ≤ p := by
  have := dec_anti (p := p) (s := 0) (s' := s) hp (by omega) hh hs
  rwa [dec_zero hh] at this
theorem dm_add {a b h : Int} (hh : 1 ≤ h) : (a % h + b % h < h ∧ (a + b) / h = a / h + b / h ∧ (a + b) % h = a % h + b % h) ∨ (h ≤ a % h + b % h ∧ (a + b) / h = a / h + b / h + 1 ∧ (a + b) % h = a % h + b % h - h) := by
  have ea := Int.mul_ediv_add_emod a h
  have eb := Int.mul_ediv_add_emod b h
  have ra := Int.emod_lt_of_pos a (show 0 < h by omega)
  have ra0 := Int.emod_nonneg a (show h ≠ 0 by omega)
  have rb := Int.emod_lt_of_pos b (show 0 < h by omega)
  have rb0 := Int.emod_nonneg b (show h ≠ 0 by omega)
  by_cases c : a % h + b % h < h
  · left
    have e2 : a + b = (a % h + b % h) + h * (a / h + b / h) := by rw [Int.mul_add]; omega
    refine ⟨c, ?_, ?_⟩
    · rw [e2, Int.add_mul_ediv_left _ _ (by omega), Int.ediv_eq_zero_of_lt (by omega) c, Int.zero_add]
    · rw [e2, Int.add_mul_emod_self_left, Int.emod_eq_of_lt (by omega) c]
  · right
    have e2 : a + b = (a % h + b % h - h) + h * (a / h + b / h + 1) := by rw [Int.mul_add, Int.mul_add, Int.mul_one]; omega
    refine ⟨by omega, ?_, ?_⟩
    · rw [e2, Int.add_mul_ediv_left _ _ (by omega), Int.ediv_eq_zero_of_lt (by omega) (by omega), Int.zero_add]
    · rw [e2, Int.add_mul_emod_self_left, Int.emod_eq_of_lt (by omega) (by omega)]
/-- a fine laid on what is left outweighs what would be left of the elder one -/
theorem dec_comp {p a b h x : Int} (hp : 0 ≤ p) (ha : 0 ≤ a) (hb : 0 ≤ b) (hh : 1 ≤ h) (hx : dec p a h < x) : dec p (a + b) h ≤ dec x b h := dec_le_of fun g hg => by
  have hx3 : p * (2 * h - a % h) < x * (2 * h * 2 ^ (a / h).toNat) := by
    have q : ¬ x - 1 < dec p a h := by omega
    rw [lt_dec hh] at q
    have e : x - 1 + 1 = x := by omega
    rw [e] at q
    omega
  rw [lt_dec hh] at hg ⊢
  have ra := Int.emod_lt_of_pos a (show 0 < h by omega)
  have ra0 := Int.emod_nonneg a (show h ≠ 0 by omega)
  have rb := Int.emod_lt_of_pos b (show 0 < h by omega)
  have rb0 := Int.emod_nonneg b (show h ≠ 0 by omega)
  have ta : 0 ≤ a / h := Int.ediv_nonneg ha (by omega)
  have tb : 0 ≤ b / h := Int.ediv_nonneg hb (by omega)
  have pa := two_pow_pos (a / h).toNat
  have pb := two_pow_pos (b / h).toNat
  have hz : 0 < 2 * h * 2 ^ (a / h).toNat := Int.mul_pos (by omega) pa
  refine Int.le_of_mul_le_mul_right ?_ hz
  generalize hA : (2 : Int) ^ (a / h).toNat = PA at *
  generalize hB : (2 : Int) ^ (b / h).toNat = PB at *
  generalize hu : a % h = u at *
  generalize hv : b % h = v at *
  have low : p * (2 * h - u) * (2 * h - v) ≤ x * (2 * h * PA) * (2 * h - v) := Int.mul_le_mul_of_nonneg_right (by omega) (by omega)
  have e1 : x * (2 * h - v) * (2 * h * PA) = x * (2 * h * PA) * (2 * h - v) := by rw [Int.mul_assoc, Int.mul_comm (2 * h - v), ← Int.mul_assoc]
  rw [e1]
  refine Int.le_trans ?_ low
  have e2 : (g + 1) * (2 * h * PB) * (2 * h * PA) = (g + 1) * (2 * h * (PA * PB)) * (2 * h) := by grind
  rw [e2]
  have tab : (a / h + b / h).toNat = (a / h).toNat + (b / h).toNat := by omega
  rcases dm_add hh with ⟨c, q1, q2⟩ | ⟨c, q1, q2⟩
  · rw [q1, q2, tab, Int.pow_add, hA, hB] at hg
    rw [hu, hv] at hg c
    have s1 : (g + 1) * (2 * h * (PA * PB)) * (2 * h) ≤ p * (2 * h - (u + v)) * (2 * h) := Int.mul_le_mul_of_nonneg_right hg (by omega)
    refine Int.le_trans s1 ?_
    have s2 : p * (2 * h - u) * (2 * h - v) = p * (2 * h - (u + v)) * (2 * h) + p * (u * v) := by grind
    have s3 : 0 ≤ p * (u * v) := Int.mul_nonneg hp (Int.mul_nonneg ra0 rb0)
    omega
  · rw [q1, q2, show a / h + b / h + 1 = (a / h + b / h) + 1 from rfl, toNat_succ (by omega), tab, Int.pow_succ, Int.pow_add, hA, hB] at hg
    rw [hu, hv] at hg c
    have s1 : (g + 1) * (2 * h * (PA * PB * 2)) * h ≤ p * (2 * h - (u + v - h)) * h := Int.mul_le_mul_of_nonneg_right hg (by omega)
    have s0 : (g + 1) * (2 * h * (PA * PB)) * (2 * h) = (g + 1) * (2 * h * (PA * PB * 2)) * h := by grind
    rw [s0]
    refine Int.le_trans s1 ?_
    have s2 : p * (2 * h - u) * (2 * h - v) = p * (2 * h - (u + v - h)) * h + p * ((h - u) * (h - v)) := by grind
    have s3 : 0 ≤ p * ((h - u) * (h - v)) := Int.mul_nonneg hp (Int.mul_nonneg (by omega) (by omega))
    omega
theorem dec_half {p t h : Int} (hh : 1 ≤ h) (hp : 0 ≤ p) (hb : p < 1000000) {g : Int} (hg : 1 ≤ g) (k : g < dec p (t * h) h) : t < 20 := by
  rw [lt_dec hh, Int.mul_ediv_cancel _ (by omega), Int.mul_emod_left, Int.sub_zero] at k
  have k2 : (g + 1) * 2 ^ t.toNat * (2 * h) ≤ p * (2 * h) := by
    have e : (g + 1) * (2 * h * 2 ^ t.toNat) = (g + 1) * 2 ^ t.toNat * (2 * h) := by grind
    rw [e] at k
    exact k
  have k3 := Int.le_of_mul_le_mul_right k2 (by omega)
  have p1 := two_pow_pos t.toNat
  have k4 : 2 * 2 ^ t.toNat ≤ (g + 1) * 2 ^ t.toNat := Int.mul_le_mul_of_nonneg_right (by omega) (by omega)
  have k5 : (2 : Int) ^ t.toNat < 2 ^ 20 := by omega
  have k6 : t.toNat < 20 := by
    refine Decidable.byContradiction fun q => ?_
    have : (2 : Int) ^ 20 ≤ 2 ^ t.toNat := two_pow_mono (by omega)
    omega
  omega
noncomputable def Least (p goal h v : Int) : Prop := 0 ≤ v ∧ v < 1000 ∧ dec p v h ≤ goal ∧ ∀ s, 0 ≤ s → s < v → goal < dec p s h
theorem least_zero {p goal h : Int} (hh : 1 ≤ h) (k : p ≤ goal) : Least p goal h 0 := ⟨by omega, by omega, by rw [dec_zero hh]; exact k, fun s h1 h2 => by omega⟩
theorem least_of {p goal h n b : Int} (hp : 0 < p) (hpb : p < 1000000) (hg : 1 ≤ goal) (hh : 1 ≤ h) (hh5 : h ≤ 5) (hn : 0 ≤ n) (k1 : goal < dec p (n * h) h) (k2 : ¬ goal < dec p ((n + 1) * h) h)
    (hb : b = ((goal + 1) * (2 * h * 2 ^ n.toNat) - 1).fdiv p) : Least p goal h (n * h + (if 2 * h - b > 0 then 2 * h - b else 0)) := by
  rw [Int.fdiv_eq_ediv_of_nonneg _ (by omega)] at hb
  have n20 := dec_half hh (by omega) hpb hg k1
  have bnd : ∀ r, p * r ≤ (goal + 1) * (2 * h * 2 ^ n.toNat) - 1 ↔ r ≤ b := fun r => by rw [hb, Int.le_ediv_iff_mul_le hp, Int.mul_comm r p]
  have at' : ∀ r, 0 ≤ r → r < h → (goal < dec p (n * h + r) h ↔ ¬ 2 * h - r ≤ b) := fun r h0 h1 => by
    rw [lt_dec hh, ← bnd]
    have e1 : (n * h + r) / h = n := by rw [Int.add_comm, Int.add_mul_ediv_right _ _ (by omega), Int.ediv_eq_zero_of_lt h0 h1, Int.zero_add]
    have e2 : (n * h + r) % h = r := by rw [Int.add_comm, Int.add_mul_emod_self_right, Int.emod_eq_of_lt h0 h1]
    rw [e1, e2]
    omega
  have z0 : ¬ 2 * h ≤ b := by
    have q := (at' 0 (by omega) (by omega)).mp (by rw [Int.add_zero]; exact k1)
    rwa [Int.sub_zero] at q
  have z1 : h ≤ b := by
    rw [lt_dec hh, Int.mul_ediv_cancel _ (by omega), Int.mul_emod_left, Int.sub_zero, toNat_succ hn, Int.pow_succ] at k2
    have e : (goal + 1) * (2 * h * (2 ^ n.toNat * 2)) = (goal + 1) * (2 * h * 2 ^ n.toNat) * 2 := by grind
    have e2 : p * (2 * h) = p * h * 2 := by grind
    rw [e, e2] at k2
    exact (bnd h).mp (by omega)
  rw [if_pos (by omega)]
  have nh0 : 0 ≤ n * h := Int.mul_nonneg hn (by omega)
  have nh1 : n * h ≤ 20 * 5 := Int.le_trans (Int.mul_le_mul_of_nonneg_right (show n ≤ 20 by omega) (by omega)) (by omega)
  refine ⟨by omega, by omega, ?_, fun s s0 s1 => ?_⟩
  · by_cases c : 2 * h - b < h
    · have q := (not_congr (at' (2 * h - b) (by omega) c)).mpr (by omega)
      omega
    · have e : 2 * h - b = h := by omega
      rw [e]
      have e2 : n * h + h = (n + 1) * h := by rw [Int.add_mul, Int.one_mul]
      rw [e2]
      omega
  · by_cases c : s < n * h
    · have := dec_anti (p := p) (s := s) (s' := n * h) (h := h) (by omega) s0 hh (by omega)
      omega
    · have q := (at' (s - n * h) (by omega) (by omega)).mpr (by omega)
      rwa [show n * h + (s - n * h) = s by omega] at q
section
variable {prog : Program} {w : World} {K : Frag} {p : Program} {loose : List Str} {mean : ExcName → Option Value} {mg mb : Str → Option Value} {f : Addr} {d0 u0 : Nat} {news : Led} {vs : List Value} {Post : Value → Led → Prop}
theorem Ctr.use9 {dp un : Nat} {gd : Option (List Code)} {cn : Str} {cs : Scope} {a : Addr} {ccd : Value} {cl : List (Str × Addr)} {outer : List Env} {A₀ : Around} {base h₀ : Heap} {L : Addr} {m : Str → Option Value} {s : Shared} {Q E : Value → Shared → Prop}
    (B : Below A₀ base outer h₀) (F : Fr h₀ L s.heap m) (X : K.In h₀) (N : News h₀ L s.heap news) (T : Top p loose mean mg mb h₀) (hk : cs.kind = .function)
    (hd : dp + d0 < recursionLimit) (hu : un + u0 < cLine)
    (C : Ctr prog w K p loose mean mg mb f d0 u0 news vs Post)
    (ret : ∀ r news' h' tk', Fr h₀ L h' m → News h₀ L h' news' → Post r news' → Q r { s with heap := h', toks := tk' }) :
    wpAny (model prog w) (ktrTop dp un gd cn cs L a ccd cl outer) (call (.ref f) vs) Q E s := C _ _ _ _ _ _ _ _ _ _ _ _ _ _ _ _ _ B F X N T hk hd hu ret
end
local macro_rules | `(tactic| walk_at $s:str) => `(tactic| k_extra $s)
local macro_rules | `(tactic| k_updF) => `(tactic| k_extra "my updF")
local macro_rules | `(tactic| k_upd) => `(tactic| k_extra "my upd")
local macro_rules | `(tactic| k_mem) => `(tactic| k_extra "my mem")
local macro_rules | `(tactic| is_list) => `(tactic| k_extra "my islist")
section
variable {prog : Program} {w : World} {K : Frag} {p : Program} {loose : List Str} {mean : ExcName → Option Value} {mg mb : Str → Option Value} {f : Addr} {d0 u0 : Nat} {news : Led} {vs : List Value}
variable {dp un : Nat} {gd : Option (List Code)} {cn : Str} {cs : Scope} {a : Addr} {ccd : Value} {cl : List (Str × Addr)} {outer : List Env} {A₀ : Around} {base h₀ : Heap} {L : Addr} {m : Str → Option Value} {s : Shared} {Q E : Value → Shared → Prop}
theorem Ctr.cVal {V : Value} (B : Below A₀ base outer h₀) (F : Fr h₀ L s.heap m) (X : K.In h₀) (N : News h₀ L s.heap news) (T : Top p loose mean mg mb h₀) (hk : cs.kind = .function) (hd : dp + d0 < recursionLimit) (hu : un + u0 < cLine)
    (C : Ctr prog w K p loose mean mg mb f d0 u0 news vs (fun r n => n = news ∧ r = V))
    (ret : ∀ h' tk', Fr h₀ L h' m → News h₀ L h' news → Q V { s with heap := h', toks := tk' }) :
    wpAny (model prog w) (ktrTop dp un gd cn cs L a ccd cl outer) (call (.ref f) vs) Q E s :=
  C.use9 B F X N T hk hd hu fun _ _ h tk F9 N9 P => by obtain ⟨rfl, rfl⟩ := P; exact ret h tk F9 N9
theorem Ctr.cInt {V : Int} (B : Below A₀ base outer h₀) (F : Fr h₀ L s.heap m) (X : K.In h₀) (N : News h₀ L s.heap news) (T : Top p loose mean mg mb h₀) (hk : cs.kind = .function) (hd : dp + d0 < recursionLimit) (hu : un + u0 < cLine)
    (C : Ctr prog w K p loose mean mg mb f d0 u0 news vs (fun r n => n = news ∧ ∃ t, r = .int V t))
    (ret : ∀ h' tk' t, Fr h₀ L h' m → News h₀ L h' news → Q (.int V t) { s with heap := h', toks := tk' }) :
    wpAny (model prog w) (ktrTop dp un gd cn cs L a ccd cl outer) (call (.ref f) vs) Q E s :=
  C.use9 B F X N T hk hd hu fun _ _ h tk F9 N9 P => by obtain ⟨rfl, t, rfl⟩ := P; exact ret h tk t F9 N9
theorem Ctr.cSec {Z : Int → Prop} (B : Below A₀ base outer h₀) (F : Fr h₀ L s.heap m) (X : K.In h₀) (N : News h₀ L s.heap news) (T : Top p loose mean mg mb h₀) (hk : cs.kind = .function) (hd : dp + d0 < recursionLimit) (hu : un + u0 < cLine)
    (C : Ctr prog w K p loose mean mg mb f d0 u0 news vs (fun r n => n = news ∧ ∃ v t, r = .int v t ∧ Z v))
    (ret : ∀ h' tk' v t, Z v → Fr h₀ L h' m → News h₀ L h' news → Q (.int v t) { s with heap := h', toks := tk' }) :
    wpAny (model prog w) (ktrTop dp un gd cn cs L a ccd cl outer) (call (.ref f) vs) Q E s :=
  C.use9 B F X N T hk hd hu fun _ _ h tk F9 N9 P => by obtain ⟨rfl, v, t, rfl, z⟩ := P; exact ret h tk v t z F9 N9
theorem Ctr.cDraw {many : Int} {G : Tok → Nat → Led} (B : Below A₀ base outer h₀) (F : Fr h₀ L s.heap m) (X : K.In h₀) (N : News h₀ L s.heap news) (T : Top p loose mean mg mb h₀) (hk : cs.kind = .function) (hd : dp + d0 < recursionLimit) (hu : un + u0 < cLine)
    (C : Ctr prog w K p loose mean mg mb f d0 u0 news vs (fun r n => ∃ v t t' n', r = .int v t ∧ 0 ≤ v ∧ v < many ∧ n = G t' n'))
    (ret : ∀ h' tk' v t t' n', 0 ≤ v → v < many → Fr h₀ L h' m → News h₀ L h' (G t' n') → Q (.int v t) { s with heap := h', toks := tk' }) :
    wpAny (model prog w) (ktrTop dp un gd cn cs L a ccd cl outer) (call (.ref f) vs) Q E s :=
  C.use9 B F X N T hk hd hu fun _ _ h tk F9 N9 P => by obtain ⟨v, t, t', n', rfl, x, y, rfl⟩ := P; exact ret h tk v t t' n' x y F9 N9
theorem Ctr.cOut {own : Led} {Z : Led → Addr → List Value → Nat → Prop} {Y : Led → List Value → Prop} {O : Led → Prop} (B : Below A₀ base outer h₀) (F : Fr h₀ L s.heap m) (X : K.In h₀) (N : News h₀ L s.heap news) (T : Top p loose mean mg mb h₀) (hk : cs.kind = .function) (hd : dp + d0 < recursionLimit) (hu : un + u0 < cLine)
    (C : Ctr prog w K p loose mean mg mb f d0 u0 news vs (fun r n => ∃ ex E vs c, n = ex ++ own ∧ r = .ref E ∧ Z ex E vs c ∧ Y ex vs ∧ O ex))
    (ret : ∀ h' tk' ex E vs c, Z ex E vs c → Y ex vs → O ex → Fr h₀ L h' m → News h₀ L h' (ex ++ own) → Q (.ref E) { s with heap := h', toks := tk' }) :
    wpAny (model prog w) (ktrTop dp un gd cn cs L a ccd cl outer) (call (.ref f) vs) Q E s :=
  C.use9 B F X N T hk hd hu fun _ _ h tk F9 N9 P => by obtain ⟨ex, E, vs, c, rfl, rfl, z, y, o⟩ := P; exact ret h tk ex E vs c z y o F9 N9
theorem Ctr.cWhen {b : Bool} {row : Option Row} {Z : Row → Int → Prop} (B : Below A₀ base outer h₀) (F : Fr h₀ L s.heap m) (X : K.In h₀) (N : News h₀ L s.heap news) (T : Top p loose mean mg mb h₀) (hk : cs.kind = .function) (hd : dp + d0 < recursionLimit) (hu : un + u0 < cLine)
    (C : Ctr prog w K p loose mean mg mb f d0 u0 news vs (fun r n => n = news ∧ ((b = false ∧ r = .none) ∨ (b = true ∧ ∃ q v t, row = some q ∧ Z q v ∧ r = .int (q.since + v) t))))
    (ret1 : ∀ h' tk', b = false → Fr h₀ L h' m → News h₀ L h' news → Q .none { s with heap := h', toks := tk' })
    (ret2 : ∀ h' tk' q v t, b = true → row = some q → Z q v → Fr h₀ L h' m → News h₀ L h' news → Q (.int (q.since + v) t) { s with heap := h', toks := tk' }) :
    wpAny (model prog w) (ktrTop dp un gd cn cs L a ccd cl outer) (call (.ref f) vs) Q E s :=
  C.use9 B F X N T hk hd hu fun _ _ h tk F9 N9 P => by
    obtain ⟨rfl, ⟨e, rfl⟩ | ⟨e, q, v, t, e2, z, rfl⟩⟩ := P
    · exact ret1 h tk e F9 N9
    · exact ret2 h tk q v t e e2 z F9 N9
theorem Ctr.cWhenN {b : Bool} {row : Option Row} {Z : Row → Int → Prop} (B : Below A₀ base outer h₀) (F : Fr h₀ L s.heap m) (X : K.In h₀) (N : News h₀ L s.heap news) (T : Top p loose mean mg mb h₀) (hk : cs.kind = .function) (hd : dp + d0 < recursionLimit) (hu : un + u0 < cLine) (hb : b = false)
    (C : Ctr prog w K p loose mean mg mb f d0 u0 news vs (fun r n => n = news ∧ ((b = false ∧ r = .none) ∨ (b = true ∧ ∃ q v t, row = some q ∧ Z q v ∧ r = .int (q.since + v) t))))
    (ret : ∀ h' tk', Fr h₀ L h' m → News h₀ L h' news → Q .none { s with heap := h', toks := tk' }) :
    wpAny (model prog w) (ktrTop dp un gd cn cs L a ccd cl outer) (call (.ref f) vs) Q E s :=
  C.use9 B F X N T hk hd hu fun _ _ h tk F9 N9 P => by
    obtain ⟨rfl, ⟨e, rfl⟩ | ⟨e, _⟩⟩ := P
    · exact ret h tk F9 N9
    · exact absurd (e.symm.trans hb) (by decide)
theorem Ctr.cWhenS {b : Bool} {q : Row} {Z : Row → Int → Prop} (B : Below A₀ base outer h₀) (F : Fr h₀ L s.heap m) (X : K.In h₀) (N : News h₀ L s.heap news) (T : Top p loose mean mg mb h₀) (hk : cs.kind = .function) (hd : dp + d0 < recursionLimit) (hu : un + u0 < cLine) (hb : b = true)
    (C : Ctr prog w K p loose mean mg mb f d0 u0 news vs (fun r n => n = news ∧ ((b = false ∧ r = .none) ∨ (b = true ∧ ∃ q' v t, some q = some q' ∧ Z q' v ∧ r = .int (q'.since + v) t))))
    (ret : ∀ h' tk' v t, Z q v → Fr h₀ L h' m → News h₀ L h' news → Q (.int (q.since + v) t) { s with heap := h', toks := tk' }) :
    wpAny (model prog w) (ktrTop dp un gd cn cs L a ccd cl outer) (call (.ref f) vs) Q E s :=
  C.use9 B F X N T hk hd hu fun _ _ h tk F9 N9 P => by
    obtain ⟨rfl, ⟨e, _⟩ | ⟨e, q', v, t, e2, z, rfl⟩⟩ := P
    · exact absurd (e.symm.trans hb) (by decide)
    · cases e2; exact ret h tk v t z F9 N9
end
section
variable {prog : Program} {w : World} {K : Frag} {p : Program} {loose : List Str} {mean : ExcName → Option Value} {mg mb : Str → Option Value} {f : Addr} {d0 u0 : Nat} {news : Led} {vs : List Value}
variable {dp un : Nat} {gd : Option (List Code)} {cn : Str} {cs : Scope} {a : Addr} {ccd : Value} {cl : List (Str × Addr)} {outer : List Env} {A₀ : Around} {base h₀ : Heap} {L : Addr} {m : Str → Option Value} {s : Shared} {Q E : Value → Shared → Prop}
theorem Ctr.cDrawL {own : Led} {many : Int} {O S : Led → Prop} (B : Below A₀ base outer h₀) (F : Fr h₀ L s.heap m) (X : K.In h₀) (N : News h₀ L s.heap news) (T : Top p loose mean mg mb h₀) (hk : cs.kind = .function) (hd : dp + d0 < recursionLimit) (hu : un + u0 < cLine)
    (C : Ctr prog w K p loose mean mg mb f d0 u0 news vs (fun r n => ∃ v t nx, r = .int v t ∧ 0 ≤ v ∧ v < many ∧ n = nx ++ own ∧ O nx ∧ S nx))
    (ret : ∀ h' tk' v t nx, 0 ≤ v → v < many → O nx → S nx → Fr h₀ L h' m → News h₀ L h' (nx ++ own) → Q (.int v t) { s with heap := h', toks := tk' }) :
    wpAny (model prog w) (ktrTop dp un gd cn cs L a ccd cl outer) (call (.ref f) vs) Q E s :=
  C.use9 B F X N T hk hd hu fun _ _ h tk F9 N9 P => by obtain ⟨v, t, nx, rfl, x, y, rfl, o, z⟩ := P; exact ret h tk v t nx x y o z F9 N9
theorem Ctr.cList {α β : Type} {own : Led} {Z : List Value → Prop} {O : Addr → List Value → Nat → Led → Prop} {S : Led → α → β → Prop} (B : Below A₀ base outer h₀) (F : Fr h₀ L s.heap m) (X : K.In h₀) (N : News h₀ L s.heap news) (T : Top p loose mean mg mb h₀) (hk : cs.kind = .function) (hd : dp + d0 < recursionLimit) (hu : un + u0 < cLine)
    (C : Ctr prog w K p loose mean mg mb f d0 u0 news vs (fun r n => ∃ nx o kv E vs c, n = nx ++ ((E, W.listOf vs.toArray c) :: own) ∧ r = .ref E ∧ Z vs ∧ O E vs c nx ∧ S nx o kv))
    (ret : ∀ h' tk' nx o kv E vs c, Z vs → O E vs c nx → S nx o kv → Fr h₀ L h' m → News h₀ L h' (nx ++ ((E, W.listOf vs.toArray c) :: own)) → Q (.ref E) { s with heap := h', toks := tk' }) :
    wpAny (model prog w) (ktrTop dp un gd cn cs L a ccd cl outer) (call (.ref f) vs) Q E s :=
  C.use9 B F X N T hk hd hu fun _ _ h tk F9 N9 P => by obtain ⟨nx, o, kv, E, vs, c, rfl, rfl, z, y, x⟩ := P; exact ret h tk nx o kv E vs c z y x F9 N9
theorem Ctr.cTr {α β γ : Type} {own : Led} {O : Led → Prop} {M : Nat → Prop} {S : Led → α → β → γ → Nat → Prop} {Y Z : γ → Prop} (B : Below A₀ base outer h₀) (F : Fr h₀ L s.heap m) (X : K.In h₀) (N : News h₀ L s.heap news) (T : Top p loose mean mg mb h₀) (hk : cs.kind = .function) (hd : dp + d0 < recursionLimit) (hu : un + u0 < cLine)
    (C : Ctr prog w K p loose mean mg mb f d0 u0 news vs (fun r n => r = .bool true ∧ ∃ nx o kt T m, n = nx ++ own ∧ O nx ∧ M m ∧ S nx o kt T m ∧ Y T ∧ Z T))
    (ret : ∀ h' tk' nx o kt T m', O nx → M m' → S nx o kt T m' → Y T → Z T → Fr h₀ L h' m → News h₀ L h' (nx ++ own) → Q (.bool true) { s with heap := h', toks := tk' }) :
    wpAny (model prog w) (ktrTop dp un gd cn cs L a ccd cl outer) (call (.ref f) vs) Q E s :=
  C.use9 B F X N T hk hd hu fun _ _ h tk F9 N9 P => by obtain ⟨rfl, nx, o, kt, T, m1, rfl, z, y, x, u, v⟩ := P; exact ret h tk nx o kt T m1 z y x u v F9 N9
theorem Ctr.cFin {α β : Type} {own : Led} {V : Value} {O : Led → Prop} {S : Led → α → β → Prop} (B : Below A₀ base outer h₀) (F : Fr h₀ L s.heap m) (X : K.In h₀) (N : News h₀ L s.heap news) (T : Top p loose mean mg mb h₀) (hk : cs.kind = .function) (hd : dp + d0 < recursionLimit) (hu : un + u0 < cLine)
    (C : Ctr prog w K p loose mean mg mb f d0 u0 news vs (fun r n => ∃ nx o kv, n = nx ++ own ∧ O nx ∧ S nx o kv ∧ r = V))
    (ret : ∀ h' tk' nx o kv, O nx → S nx o kv → Fr h₀ L h' m → News h₀ L h' (nx ++ own) → Q V { s with heap := h', toks := tk' }) :
    wpAny (model prog w) (ktrTop dp un gd cn cs L a ccd cl outer) (call (.ref f) vs) Q E s :=
  C.use9 B F X N T hk hd hu fun _ _ h tk F9 N9 P => by obtain ⟨nx, o, kv, rfl, z, y, rfl⟩ := P; exact ret h tk nx o kv z y F9 N9
theorem Ctr.cFg {α β γ δ : Type} {own : Led} {O : Led → Prop} {S : Led → α → β → γ → δ → Prop} (B : Below A₀ base outer h₀) (F : Fr h₀ L s.heap m) (X : K.In h₀) (N : News h₀ L s.heap news) (T : Top p loose mean mg mb h₀) (hk : cs.kind = .function) (hd : dp + d0 < recursionLimit) (hu : un + u0 < cLine)
    (C : Ctr prog w K p loose mean mg mb f d0 u0 news vs (fun r n => r = .bool true ∧ ∃ nx o kv qa qb, n = nx ++ own ∧ O nx ∧ S nx o kv qa qb))
    (ret : ∀ h' tk' nx o kv qa qb, O nx → S nx o kv qa qb → Fr h₀ L h' m → News h₀ L h' (nx ++ own) → Q (.bool true) { s with heap := h', toks := tk' }) :
    wpAny (model prog w) (ktrTop dp un gd cn cs L a ccd cl outer) (call (.ref f) vs) Q E s :=
  C.use9 B F X N T hk hd hu fun _ _ h tk F9 N9 P => by obtain ⟨rfl, nx, o, kv, qa, qb, rfl, z, y⟩ := P; exact ret h tk nx o kv qa qb z y F9 N9
end
theorem decayed_c {w : World} {mean : ExcName → Option Value} {mg mb : Str → Option Value} {news : Led} (p s h : Int) (tp ts th : Tok)
    (hp : 0 ≤ p ∧ p < 1000000) (hs : 0 ≤ s ∧ s < 1000) (hh : 1 ≤ h ∧ h ≤ 5) :
    CtrL w mean mg mb 60 1 8 news [.int p tp, .int s ts, .int h th] (fun r news' => news' = news ∧ ∃ t, r = .int (dec p s h) t) := by
  (w_top off; k_with_none; (k_with "my updF" => (first | assumption | exact UpdF.tail (my_ne (by assumption) (by assumption)) (by assumption))); (k_with "my upd" => (exact updF_upd (by assumption) _)); (k_with "my mem" => (first | exact updF_new (by assumption) _ | exact updF_old (by assumption) (by assumption) (by assumption) | (refine List.mem_cons_of_mem _ ?_; k_mem) | (refine List.mem_append_right _ ?_; k_mem))); (k_with "my islist" => (exact News.isList (by k_asm) (by k_mem))); (k_with "my fact" => (first | assumption | trivial | omega | (refine ⟨?_, ?_⟩ <;> omega) | ((try dsimp only); first | assumption | omega | l_fact))); (k_with "compareOp NotIn int ref" => ((k_here; k_dflt (refine my_notin (by k_asm) (by k_mem) (by k_asm) (by k_asm) _ (by assumption) ?_); (try dsimp only [Bool.not_true, Bool.not_false])))); (k_with "compareOp In int ref" => ((k_here; k_dflt (refine my_in (by k_asm) (by k_mem) (by k_asm) (by k_asm) _ (by assumption) ?_); (try dsimp only)))); (k_with "subscriptTail" => ((k_here; k_dflt (first
  | ((with_reducible show wpAny _ _ (subscriptTail _ _ (Value.ref _) (Value.str _ _)) _ _ _); refine kda_item (knd := PySem.strKind _ _) (by k_asm) (by k_mem) (by k_asm) (strKind_is _ _ _ _) (by assumption) ?_; (try dsimp only))
  | ((with_reducible show wpAny _ _ (subscriptTail _ _ (Value.ref _) (Value.int _ _)) _ _ _); refine kda_item (knd := PySem.intKind _ _) (by k_asm) (by k_mem) (by k_asm) (intKind_is _ _ _ _) (by assumption) ?_; (try dsimp only)))))); (k_with "call builtin:min" => ((k_here; (with_reducible show wpAny _ _ (call (Value.builtin _) [Value.int _ _, Value.int _ _, Value.int _ _]) _ _ _); (with_unfolding_all refine my_min3 (by with_unfolding_all rfl) (by k_asm) (by k_asm) ?_); k_whole); intro v9 t9 h9 tk9 c9 F9 N9; (have d9 := c9 (by omega)); clear c9; (try dsimp only))); (k_with "setItem ref int" => ((k_here; (with_reducible show wpAny _ _ (setItem (Value.ref _) (Value.int _ _) (Value.ref _)) _ _ _); k_dflt (refine kda_set (knd := PySem.intKind _ _) (by k_asm) (by k_asm) (by k_updF) (by k_asm) (intKind_is _ _ _ _) (by rw [sizeLine_eq]; omega) ?_)); intro h9 o9 F9 N9 hd9; (try dsimp only at N9); (try dsimp only))); (k_with "my sub" => (intro p9 hp9; repeat (first | exact hp9 | assumption | refine List.mem_cons_of_mem _ ?_ | refine List.mem_append_right _ ?_))))
  have h1 : 0 ≤ s.fdiv h := fdiv_nn hs.1 hh.1
  (unfold CtrL Ctr; k_fill; intro dp un gd cn cs a ccd cl outer A₀ base h₀ L m s0 Q E B F X N T hk hd hu hret; refine wpAny_call ?_; k_dflt ktr_enter; refine e_never ?_)
  k_steps
  all_goals (refine hret _ news _ _ (by k_asm) ?_ ⟨rfl, _, rfl⟩; (first | assumption | (refine cb_drop (by assumption) ?_; intro q9 hq9; simp only [List.mem_cons, hq9, or_true])))
theorem penalty_c {w : World} {mean : ExcName → Option Value} {mg mb : Str → Option Value} {news : Led} {d dx c r : Addr} {oc orr : Obj} {kc : List (Str × Value)} {kvs : List (Int × Value)} {top : Int} (k now half : Int) (row : Option Row) (tk tn : Tok)
    (D : DmpAt w news d dx c r oc orr kc kvs top) (hhalf : CfgIs kc (Str.ofString "half") half) (hh : 1 ≤ half ∧ half ≤ 5) (hrow : RowAt news kvs k row) (hok : RowOk now row) :
    CtrL w mean mg mb 95 2 16 news [.ref d, .int k tk, .int now tn] (fun r news' => news' = news ∧ ∃ t, r = .int (penR half row now) t) := by
  (w_top off; k_with_none; (k_with "my updF" => (first | assumption | exact UpdF.tail (my_ne (by assumption) (by assumption)) (by assumption))); (k_with "my upd" => (exact updF_upd (by assumption) _)); (k_with "my mem" => (first | exact updF_new (by assumption) _ | exact updF_old (by assumption) (by assumption) (by assumption) | (refine List.mem_cons_of_mem _ ?_; k_mem) | (refine List.mem_append_right _ ?_; k_mem))); (k_with "my islist" => (exact News.isList (by k_asm) (by k_mem))); (k_with "my fact" => (first | assumption | trivial | omega | (refine ⟨?_, ?_⟩ <;> omega) | ((try dsimp only); first | assumption | omega | l_fact))); (k_with "compareOp NotIn int ref" => ((k_here; k_dflt (refine my_notin (by k_asm) (by k_mem) (by k_asm) (by k_asm) _ (by assumption) ?_); (try dsimp only [Bool.not_true, Bool.not_false])))); (k_with "compareOp In int ref" => ((k_here; k_dflt (refine my_in (by k_asm) (by k_mem) (by k_asm) (by k_asm) _ (by assumption) ?_); (try dsimp only)))); (k_with "subscriptTail" => ((k_here; k_dflt (first
  | ((with_reducible show wpAny _ _ (subscriptTail _ _ (Value.ref _) (Value.str _ _)) _ _ _); refine kda_item (knd := PySem.strKind _ _) (by k_asm) (by k_mem) (by k_asm) (strKind_is _ _ _ _) (by assumption) ?_; (try dsimp only))
  | ((with_reducible show wpAny _ _ (subscriptTail _ _ (Value.ref _) (Value.int _ _)) _ _ _); refine kda_item (knd := PySem.intKind _ _) (by k_asm) (by k_mem) (by k_asm) (intKind_is _ _ _ _) (by assumption) ?_; (try dsimp only)))))); (k_with "call builtin:min" => ((k_here; (with_reducible show wpAny _ _ (call (Value.builtin _) [Value.int _ _, Value.int _ _, Value.int _ _]) _ _ _); (with_unfolding_all refine my_min3 (by with_unfolding_all rfl) (by k_asm) (by k_asm) ?_); k_whole); intro v9 t9 h9 tk9 c9 F9 N9; (have d9 := c9 (by omega)); clear c9; (try dsimp only))); (k_with "setItem ref int" => ((k_here; (with_reducible show wpAny _ _ (setItem (Value.ref _) (Value.int _ _) (Value.ref _)) _ _ _); k_dflt (refine kda_set (knd := PySem.intKind _ _) (by k_asm) (by k_asm) (by k_updF) (by k_asm) (intKind_is _ _ _ _) (by rw [sizeLine_eq]; omega) ?_)); intro h9 o9 F9 N9 hd9; (try dsimp only at N9); (try dsimp only))); (k_with "my sub" => (intro p9 hp9; repeat (first | exact hp9 | assumption | refine List.mem_cons_of_mem _ ?_ | refine List.mem_append_right _ ?_))); (k_with "call ref" => ((k_here; (with_reducible show wpAny _ _ (call (Value.ref 60) _) _ _ _); k_dflt (refine Ctr.cInt (by k_asm) (by k_asm) (by k_asm) (by k_asm) (by k_asm) (by first | exact rfl | assumption) (by (first | exact room3 (by assumption) (by rfl) | exact room2 (by assumption) (by rfl) | exact room1 (by assumption) | exact Nat.le_of_ble_eq_true rfl | ktr_room)) (by first | (first | exact room3 (by assumption) (by rfl) | exact room2 (by assumption) (by rfl) | exact room1 (by assumption) | exact Nat.le_of_ble_eq_true rfl | ktr_units) | exact Nat.le_of_ble_eq_true rfl | (have hcL9 := cLine_is; (try simp only [units_under_make, units_in1, units_deeper, Around.mark_units, units_caller] at *); (try dsimp only [ktrTop] at *); omega)) (decayed_c _ _ _ _ _ _ (by walk_at "my fact") (by walk_at "my fact") (by walk_at "my fact")) ?_); k_whole); intro h9 tk9 t9 F9 N9; (try dsimp only); (try k_fold))))
  obtain ⟨hD, hX, hC, hCd, hR, hRd, hRs, hLen⟩ := D
  refine ex7_1 (hX) fun x1 y1 x2 y2 x3 y3 y4 hX => ?_
  obtain ⟨th, hhalf⟩ := hhalf
  cases row with
  | none =>
    have hv : (valueAt kvs k).isSome = false := by have h : valueAt kvs k = none := hrow; rw [h]; rfl
    (unfold CtrL Ctr; k_fill; intro dp un gd cn cs a ccd cl outer A₀ base h₀ L m s0 Q E B F X N T hk hd hu hret; refine wpAny_call ?_; k_dflt ktr_enter; refine e_never ?_)
    k_steps
    all_goals (refine hret _ news _ _ (by k_asm) ?_ ⟨rfl, _, rfl⟩; (first | assumption | (refine cb_drop (by assumption) ?_; intro q9 hq9; simp only [List.mem_cons, hq9, or_true])))
  | some q =>
    refine ex3_2 (hrow) fun t t1 t2 hv0 hT => ?_
    obtain ⟨ho1, ho2, ho3, ho4⟩ := hok
    have hv : (valueAt kvs k).isSome = true := by rw [hv0]; rfl
    (unfold CtrL Ctr; k_fill; intro dp un gd cn cs a ccd cl outer A₀ base h₀ L m s0 Q E B F X N T hk hd hu hret; refine wpAny_call ?_; k_dflt ktr_enter; refine e_never ?_)
    k_steps
    all_goals (refine hret _ news _ _ (by k_asm) ?_ ⟨rfl, _, rfl⟩; (first | assumption | (refine cb_drop (by assumption) ?_; intro q9 hq9; simp only [List.mem_cons, hq9, or_true])))
noncomputable def outR (h reuse : Int) : Option Row → Int → Bool
  | none, _ => false
  | some q, now => q.out && decide (reuse < penR h (some q) now)
theorem is_left_out_c {w : World} {mean : ExcName → Option Value} {mg mb : Str → Option Value} {news : Led} {d dx c r : Addr} {oc orr : Obj} {kc : List (Str × Value)} {kvs : List (Int × Value)} {top : Int} (k now half reuse : Int) (row : Option Row) (tk tn : Tok)
    (D : DmpAt w news d dx c r oc orr kc kvs top) (hhalf : CfgIs kc (Str.ofString "half") half) (hreuse : CfgIs kc (Str.ofString "reuse") reuse) (hh : 1 ≤ half ∧ half ≤ 5) (hrow : RowAt news kvs k row) (hok : RowOk now row) :
    CtrL w mean mg mb 109 3 24 news [.ref d, .int k tk, .int now tn] (fun r news' => news' = news ∧ r = .bool (outR half reuse row now)) := by
  (w_top off; k_with_none; (k_with "my updF" => (first | assumption | exact UpdF.tail (my_ne (by assumption) (by assumption)) (by assumption))); (k_with "my upd" => (exact updF_upd (by assumption) _)); (k_with "my mem" => (first | exact updF_new (by assumption) _ | exact updF_old (by assumption) (by assumption) (by assumption) | (refine List.mem_cons_of_mem _ ?_; k_mem) | (refine List.mem_append_right _ ?_; k_mem))); (k_with "my islist" => (exact News.isList (by k_asm) (by k_mem))); (k_with "my fact" => (first | assumption | trivial | omega | (refine ⟨?_, ?_⟩ <;> omega) | ((try dsimp only); first | assumption | omega | l_fact))); (k_with "compareOp NotIn int ref" => ((k_here; k_dflt (refine my_notin (by k_asm) (by k_mem) (by k_asm) (by k_asm) _ (by assumption) ?_); (try dsimp only [Bool.not_true, Bool.not_false])))); (k_with "compareOp In int ref" => ((k_here; k_dflt (refine my_in (by k_asm) (by k_mem) (by k_asm) (by k_asm) _ (by assumption) ?_); (try dsimp only)))); (k_with "subscriptTail" => ((k_here; k_dflt (first
  | ((with_reducible show wpAny _ _ (subscriptTail _ _ (Value.ref _) (Value.str _ _)) _ _ _); refine kda_item (knd := PySem.strKind _ _) (by k_asm) (by k_mem) (by k_asm) (strKind_is _ _ _ _) (by assumption) ?_; (try dsimp only))
  | ((with_reducible show wpAny _ _ (subscriptTail _ _ (Value.ref _) (Value.int _ _)) _ _ _); refine kda_item (knd := PySem.intKind _ _) (by k_asm) (by k_mem) (by k_asm) (intKind_is _ _ _ _) (by assumption) ?_; (try dsimp only)))))); (k_with "call builtin:min" => ((k_here; (with_reducible show wpAny _ _ (call (Value.builtin _) [Value.int _ _, Value.int _ _, Value.int _ _]) _ _ _); (with_unfolding_all refine my_min3 (by with_unfolding_all rfl) (by k_asm) (by k_asm) ?_); k_whole); intro v9 t9 h9 tk9 c9 F9 N9; (have d9 := c9 (by omega)); clear c9; (try dsimp only))); (k_with "setItem ref int" => ((k_here; (with_reducible show wpAny _ _ (setItem (Value.ref _) (Value.int _ _) (Value.ref _)) _ _ _); k_dflt (refine kda_set (knd := PySem.intKind _ _) (by k_asm) (by k_asm) (by k_updF) (by k_asm) (intKind_is _ _ _ _) (by rw [sizeLine_eq]; omega) ?_)); intro h9 o9 F9 N9 hd9; (try dsimp only at N9); (try dsimp only))); (k_with "my sub" => (intro p9 hp9; repeat (first | exact hp9 | assumption | refine List.mem_cons_of_mem _ ?_ | refine List.mem_append_right _ ?_))); (k_with "call ref" => ((k_here; (with_reducible show wpAny _ _ (call (Value.ref 60) _) _ _ _); k_dflt (refine Ctr.cInt (by k_asm) (by k_asm) (by k_asm) (by k_asm) (by k_asm) (by first | exact rfl | assumption) (by (first | exact room3 (by assumption) (by rfl) | exact room2 (by assumption) (by rfl) | exact room1 (by assumption) | exact Nat.le_of_ble_eq_true rfl | ktr_room)) (by first | (first | exact room3 (by assumption) (by rfl) | exact room2 (by assumption) (by rfl) | exact room1 (by assumption) | exact Nat.le_of_ble_eq_true rfl | ktr_units) | exact Nat.le_of_ble_eq_true rfl | (have hcL9 := cLine_is; (try simp only [units_under_make, units_in1, units_deeper, Around.mark_units, units_caller] at *); (try dsimp only [ktrTop] at *); omega)) (decayed_c _ _ _ _ _ _ (by walk_at "my fact") (by walk_at "my fact") (by walk_at "my fact")) ?_); k_whole); intro h9 tk9 t9 F9 N9; (try dsimp only); (try k_fold))); (k_with "call ref" => ((k_here; (with_reducible show wpAny _ _ (call (Value.ref 95) _) _ _ _); k_dflt (refine Ctr.cInt (by k_asm) (by k_asm) (by k_asm) (by k_asm) (by k_asm) (by first | exact rfl | assumption) (by (first | exact room3 (by assumption) (by rfl) | exact room2 (by assumption) (by rfl) | exact room1 (by assumption) | exact Nat.le_of_ble_eq_true rfl | ktr_room)) (by first | (first | exact room3 (by assumption) (by rfl) | exact room2 (by assumption) (by rfl) | exact room1 (by assumption) | exact Nat.le_of_ble_eq_true rfl | ktr_units) | exact Nat.le_of_ble_eq_true rfl | (have hcL9 := cLine_is; (try simp only [units_under_make, units_in1, units_deeper, Around.mark_units, units_caller] at *); (try dsimp only [ktrTop] at *); omega)) (penalty_c _ _ _ _ _ _ (by first | assumption | exact DmpAt.mono (by assumption) (by walk_at "my sub")) (by assumption) (by assumption) (by first | assumption | exact RowAt.mono (by assumption) (by walk_at "my sub")) (by assumption)) ?_); k_whole); intro h9 tk9 t9 F9 N9; (try dsimp only); (try k_fold))))
  have hrow9 := hrow
  obtain ⟨hD, hX, hC, hCd, hR, hRd, hRs, hLen⟩ := id D
  refine ex7_1 (hX) fun x1 y1 x2 y2 x3 y3 y4 hX => ?_
  obtain ⟨th, hreuse9⟩ := id hreuse
  cases row with
  | none =>
    have hv : (valueAt kvs k).isSome = false := by have h : valueAt kvs k = none := hrow9; rw [h]; rfl
    (unfold CtrL Ctr; k_fill; intro dp un gd cn cs a ccd cl outer A₀ base h₀ L m s0 Q E B F X N T hk hd hu hret; refine wpAny_call ?_; k_dflt ktr_enter; refine e_never ?_)
    k_steps
    all_goals (refine hret _ news _ _ (by k_asm) ?_ ⟨rfl, rfl⟩; (first | assumption | (refine cb_drop (by assumption) ?_; intro q9 hq9; simp only [List.mem_cons, hq9, or_true])))
  | some q =>
    refine ex3_2 (hrow9) fun t t1 t2 hv0 hT => ?_
    have hv : (valueAt kvs k).isSome = true := by rw [hv0]; rfl
    (unfold CtrL Ctr; k_fill; intro dp un gd cn cs a ccd cl outer A₀ base h₀ L m s0 Q E B F X N T hk hd hu hret; refine wpAny_call ?_; k_dflt ktr_enter; refine e_never ?_)
    k_steps
    all_goals (refine hret _ news _ _ (by k_asm) ?_ ⟨rfl, ?_⟩; (first | assumption | (refine cb_drop (by assumption) ?_; intro q9 hq9; simp only [List.mem_cons, hq9, or_true])); (simp_all [outR]))
theorem law_draw_c {w : World} {mean : ExcName → Option Value} {mg mb : Str → Option Value} {news : Led} {g : Obj → Led} {b l : Addr} {vs : List Value} {ns : List Int} {n1 n2 : Nat} (spot many : Int) (ts tm : Tok)
    (U : UpdF b (listOf [Value.ref l, Value.int spot ts].toArray n1) news g) (hl : (l, listOf vs.toArray n2) ∈ news) (hne : l ≠ b) (hi : IntsAre vs ns) (hlen : ns.length ≤ 100) (hs : 0 ≤ spot ∧ spot < 1000) (hm : 1 ≤ many ∧ many ≤ 100) :
    CtrL w mean mg mb 152 1 8 news [.ref b, .int many tm] (fun r news' => ∃ v t t' n', r = .int v t ∧ 0 ≤ v ∧ v < many ∧ news' = g (listOf [Value.ref l, Value.int (spot + 1) t'].toArray n')) := by
  (w_top off; k_with_none; (k_with "my updF" => (first | assumption | exact UpdF.tail (my_ne (by assumption) (by assumption)) (by assumption))); (k_with "my upd" => (exact updF_upd (by assumption) _)); (k_with "my mem" => (first | exact updF_new (by assumption) _ | exact updF_old (by assumption) (by assumption) (by assumption) | (refine List.mem_cons_of_mem _ ?_; k_mem) | (refine List.mem_append_right _ ?_; k_mem))); (k_with "my islist" => (exact News.isList (by k_asm) (by k_mem))); (k_with "my fact" => (first | assumption | trivial | omega | (refine ⟨?_, ?_⟩ <;> omega) | ((try dsimp only); first | assumption | omega | l_fact))); (k_with "compareOp NotIn int ref" => ((k_here; k_dflt (refine my_notin (by k_asm) (by k_mem) (by k_asm) (by k_asm) _ (by assumption) ?_); (try dsimp only [Bool.not_true, Bool.not_false])))); (k_with "compareOp In int ref" => ((k_here; k_dflt (refine my_in (by k_asm) (by k_mem) (by k_asm) (by k_asm) _ (by assumption) ?_); (try dsimp only)))); (k_with "subscriptTail" => ((k_here; k_dflt (first
  | ((with_reducible show wpAny _ _ (subscriptTail _ _ (Value.ref _) (Value.str _ _)) _ _ _); refine kda_item (knd := PySem.strKind _ _) (by k_asm) (by k_mem) (by k_asm) (strKind_is _ _ _ _) (by assumption) ?_; (try dsimp only))
  | ((with_reducible show wpAny _ _ (subscriptTail _ _ (Value.ref _) (Value.int _ _)) _ _ _); refine kda_item (knd := PySem.intKind _ _) (by k_asm) (by k_mem) (by k_asm) (intKind_is _ _ _ _) (by assumption) ?_; (try dsimp only)))))); (k_with "call builtin:min" => ((k_here; (with_reducible show wpAny _ _ (call (Value.builtin _) [Value.int _ _, Value.int _ _, Value.int _ _]) _ _ _); (with_unfolding_all refine my_min3 (by with_unfolding_all rfl) (by k_asm) (by k_asm) ?_); k_whole); intro v9 t9 h9 tk9 c9 F9 N9; (have d9 := c9 (by omega)); clear c9; (try dsimp only))); (k_with "setItem ref int" => ((k_here; (with_reducible show wpAny _ _ (setItem (Value.ref _) (Value.int _ _) (Value.ref _)) _ _ _); k_dflt (refine kda_set (knd := PySem.intKind _ _) (by k_asm) (by k_asm) (by k_updF) (by k_asm) (intKind_is _ _ _ _) (by rw [sizeLine_eq]; omega) ?_)); intro h9 o9 F9 N9 hd9; (try dsimp only at N9); (try dsimp only))); (k_with "my sub" => (intro p9 hp9; repeat (first | exact hp9 | assumption | refine List.mem_cons_of_mem _ ?_ | refine List.mem_append_right _ ?_))))
  have hb := updF_mem U
  (unfold CtrL Ctr; k_fill; intro dp un gd cn cs a ccd cl outer A₀ base h₀ L m s0 Q E B F X N T hk hd hu hret; refine wpAny_call ?_; k_dflt ktr_enter; refine e_never ?_)
  k_steps
  all_goals exact hret _ _ _ _ (by k_asm) (by k_asm) ⟨_, _, _, _, rfl, (fmod_bounds hm.1).1, (fmod_bounds hm.1).2, rfl⟩
noncomputable def gpen (reuse most half : Int) : Int := (reuse * (2 * half * 2 ^ (most.fdiv half).toNat)).fdiv (2 * half - most.fmod half)
theorem greatest_penalty_c {w : World} {mean : ExcName → Option Value} {mg mb : Str → Option Value} {news : Led} (reuse most half : Int) (tp ts th : Tok)
    (hr : 0 ≤ reuse ∧ reuse < 1000) (hm : 0 ≤ most ∧ most < 100) (hh : 2 ≤ half ∧ half ≤ 5) :
    CtrL w mean mg mb 67 1 8 news [.int reuse tp, .int most ts, .int half th] (fun r news' => news' = news ∧ ∃ t, r = .int (gpen reuse most half) t) := by
  (w_top off; k_with_none; (k_with "my updF" => (first | assumption | exact UpdF.tail (my_ne (by assumption) (by assumption)) (by assumption))); (k_with "my upd" => (exact updF_upd (by assumption) _)); (k_with "my mem" => (first | exact updF_new (by assumption) _ | exact updF_old (by assumption) (by assumption) (by assumption) | (refine List.mem_cons_of_mem _ ?_; k_mem) | (refine List.mem_append_right _ ?_; k_mem))); (k_with "my islist" => (exact News.isList (by k_asm) (by k_mem))); (k_with "my fact" => (first | assumption | trivial | omega | (refine ⟨?_, ?_⟩ <;> omega) | ((try dsimp only); first | assumption | omega | l_fact))); (k_with "compareOp NotIn int ref" => ((k_here; k_dflt (refine my_notin (by k_asm) (by k_mem) (by k_asm) (by k_asm) _ (by assumption) ?_); (try dsimp only [Bool.not_true, Bool.not_false])))); (k_with "compareOp In int ref" => ((k_here; k_dflt (refine my_in (by k_asm) (by k_mem) (by k_asm) (by k_asm) _ (by assumption) ?_); (try dsimp only)))); (k_with "subscriptTail" => ((k_here; k_dflt (first
  | ((with_reducible show wpAny _ _ (subscriptTail _ _ (Value.ref _) (Value.str _ _)) _ _ _); refine kda_item (knd := PySem.strKind _ _) (by k_asm) (by k_mem) (by k_asm) (strKind_is _ _ _ _) (by assumption) ?_; (try dsimp only))
  | ((with_reducible show wpAny _ _ (subscriptTail _ _ (Value.ref _) (Value.int _ _)) _ _ _); refine kda_item (knd := PySem.intKind _ _) (by k_asm) (by k_mem) (by k_asm) (intKind_is _ _ _ _) (by assumption) ?_; (try dsimp only)))))); (k_with "call builtin:min" => ((k_here; (with_reducible show wpAny _ _ (call (Value.builtin _) [Value.int _ _, Value.int _ _, Value.int _ _]) _ _ _); (with_unfolding_all refine my_min3 (by with_unfolding_all rfl) (by k_asm) (by k_asm) ?_); k_whole); intro v9 t9 h9 tk9 c9 F9 N9; (have d9 := c9 (by omega)); clear c9; (try dsimp only))); (k_with "setItem ref int" => ((k_here; (with_reducible show wpAny _ _ (setItem (Value.ref _) (Value.int _ _) (Value.ref _)) _ _ _); k_dflt (refine kda_set (knd := PySem.intKind _ _) (by k_asm) (by k_asm) (by k_updF) (by k_asm) (intKind_is _ _ _ _) (by rw [sizeLine_eq]; omega) ?_)); intro h9 o9 F9 N9 hd9; (try dsimp only at N9); (try dsimp only))); (k_with "my sub" => (intro p9 hp9; repeat (first | exact hp9 | assumption | refine List.mem_cons_of_mem _ ?_ | refine List.mem_append_right _ ?_))))
  have h1 : 0 ≤ most.fdiv half := fdiv_nn hm.1 (by omega)
  have h2 : most.fdiv half < 50 := by
    rw [Int.fdiv_eq_ediv_of_nonneg _ (by omega)]
    exact Int.ediv_lt_of_lt_mul (by omega) (by omega)
  have h3 := fmod_bounds (a := most) (b := half) (by omega)
  (unfold CtrL Ctr; k_fill; intro dp un gd cn cs a ccd cl outer A₀ base h₀ L m s0 Q E B F X N T hk hd hu hret; refine wpAny_call ?_; k_dflt ktr_enter; refine e_never ?_)
  k_steps
  all_goals (refine hret _ news _ _ (by k_asm) ?_ ⟨rfl, _, rfl⟩; (first | assumption | (refine cb_drop (by assumption) ?_; intro q9 hq9; simp only [List.mem_cons, hq9, or_true])))
structure Cfg where
  half : Int
  most : Int
  reuse : Int
  suppress : Int
  wd : Int
  ch : Int
  ag : Int
structure CfgAt (kc : List (Str × Value)) (C : Cfg) : Prop where
  half : CfgIs kc (Str.ofString "half") C.half
  most : CfgIs kc (Str.ofString "most") C.most
  reuse : CfgIs kc (Str.ofString "reuse") C.reuse
  suppress : CfgIs kc (Str.ofString "suppress") C.suppress
  wd : CfgIs kc (Str.ofString "withdrawn") C.wd
  ch : CfgIs kc (Str.ofString "changed") C.ch
  ag : CfgIs kc (Str.ofString "again") C.ag
structure CfgOk (C : Cfg) : Prop where
  half : 2 ≤ C.half ∧ C.half ≤ 5
  most : 0 ≤ C.most ∧ C.most < 100
  reuse : 100 ≤ C.reuse ∧ C.reuse ≤ 200
  suppress : C.reuse < C.suppress ∧ C.suppress < 1000
  wd : 1 ≤ C.wd ∧ C.wd ≤ 300
  ch : 1 ≤ C.ch ∧ C.ch ≤ 300
  ag : 1 ≤ C.ag ∧ C.ag ≤ 300
theorem check_damping_c {w : World} {mean : ExcName → Option Value} {mg mb : Str → Option Value} {news : Led} {c : Addr} {oc : Obj} {kc : List (Str × Value)} (C : Cfg)
    (hc : (c, oc) ∈ news) (hcd : oc.IsDictOf (PySem.strKind Mine.XL.row.prog w) kc) (ha : CfgAt kc C) (hok : CfgOk C) :
    CtrL w mean mg mb 53 1 8 news [.ref c] (fun r news' => news' = news ∧ r = .none) := by
  (w_top off; k_with_none; (k_with "my updF" => (first | assumption | exact UpdF.tail (my_ne (by assumption) (by assumption)) (by assumption))); (k_with "my upd" => (exact updF_upd (by assumption) _)); (k_with "my mem" => (first | exact updF_new (by assumption) _ | exact updF_old (by assumption) (by assumption) (by assumption) | (refine List.mem_cons_of_mem _ ?_; k_mem) | (refine List.mem_append_right _ ?_; k_mem))); (k_with "my islist" => (exact News.isList (by k_asm) (by k_mem))); (k_with "my fact" => (first | assumption | trivial | omega | (refine ⟨?_, ?_⟩ <;> omega) | ((try dsimp only); first | assumption | omega | l_fact))); (k_with "compareOp NotIn int ref" => ((k_here; k_dflt (refine my_notin (by k_asm) (by k_mem) (by k_asm) (by k_asm) _ (by assumption) ?_); (try dsimp only [Bool.not_true, Bool.not_false])))); (k_with "compareOp In int ref" => ((k_here; k_dflt (refine my_in (by k_asm) (by k_mem) (by k_asm) (by k_asm) _ (by assumption) ?_); (try dsimp only)))); (k_with "subscriptTail" => ((k_here; k_dflt (first
  | ((with_reducible show wpAny _ _ (subscriptTail _ _ (Value.ref _) (Value.str _ _)) _ _ _); refine kda_item (knd := PySem.strKind _ _) (by k_asm) (by k_mem) (by k_asm) (strKind_is _ _ _ _) (by assumption) ?_; (try dsimp only))
  | ((with_reducible show wpAny _ _ (subscriptTail _ _ (Value.ref _) (Value.int _ _)) _ _ _); refine kda_item (knd := PySem.intKind _ _) (by k_asm) (by k_mem) (by k_asm) (intKind_is _ _ _ _) (by assumption) ?_; (try dsimp only)))))); (k_with "call builtin:min" => ((k_here; (with_reducible show wpAny _ _ (call (Value.builtin _) [Value.int _ _, Value.int _ _, Value.int _ _]) _ _ _); (with_unfolding_all refine my_min3 (by with_unfolding_all rfl) (by k_asm) (by k_asm) ?_); k_whole); intro v9 t9 h9 tk9 c9 F9 N9; (have d9 := c9 (by omega)); clear c9; (try dsimp only))); (k_with "setItem ref int" => ((k_here; (with_reducible show wpAny _ _ (setItem (Value.ref _) (Value.int _ _) (Value.ref _)) _ _ _); k_dflt (refine kda_set (knd := PySem.intKind _ _) (by k_asm) (by k_asm) (by k_updF) (by k_asm) (intKind_is _ _ _ _) (by rw [sizeLine_eq]; omega) ?_)); intro h9 o9 F9 N9 hd9; (try dsimp only at N9); (try dsimp only))); (k_with "my sub" => (intro p9 hp9; repeat (first | exact hp9 | assumption | refine List.mem_cons_of_mem _ ?_ | refine List.mem_append_right _ ?_))))
  obtain ⟨⟨t1, v1⟩, ⟨t2, v2⟩, ⟨t3, v3⟩, ⟨t4, v4⟩, ⟨t5, v5⟩, ⟨t6, v6⟩, ⟨t7, v7⟩⟩ := ha
  obtain ⟨o1, o2, o3, o4, o5, o6, o7⟩ := hok
  (unfold CtrL Ctr; k_fill; intro dp un gd cn cs a ccd cl outer A₀ base h₀ L m s0 Q E B F X N T hk hd hu hret; refine wpAny_call ?_; k_dflt ktr_enter; refine e_never ?_)
  k_steps
  all_goals (refine hret _ news _ _ (by k_asm) ?_ ⟨rfl, rfl⟩; (first | assumption | (refine cb_drop (by assumption) ?_; intro q9 hq9; simp only [List.mem_cons, hq9, or_true])))
noncomputable def fineOf (C : Cfg) (x : Str) : Option Int := if x = Str.ofString "withdrawn" then some C.wd else if x = Str.ofString "changed" then some C.ch else if x = Str.ofString "again" then some C.ag else none
noncomputable def finR (C : Cfg) (top add : Int) (row : Option Row) (now : Int) : Row :=
  let fine := min top (penR C.half row now + add)
  { fine := fine, since := now, out := (outR C.half C.reuse row now && decide (C.reuse < fine)) || decide (C.suppress ≤ fine) }
theorem fined_c {w : World} {mean : ExcName → Option Value} {mg mb : Str → Option Value} {news : Led} {g : Obj → Led} {d dx c r : Addr} {oc orr : Obj} {kc : List (Str × Value)} {kvs : List (Int × Value)} {top : Int} (k now add : Int) (word : Str) (C : Cfg) (row : Option Row) (tk tw tn : Tok)
    (D : DmpAt w news d dx c r oc orr kc kvs top) (U : UpdF r orr news g) (hrow : RowAt news kvs k row) (hok : RowOk now row) (ha : CfgAt kc C) (hC : CfgOk C) (hadd : CfgIs kc word add) (hadd2 : 0 ≤ add ∧ add ≤ 300) (htop : 0 ≤ top) :
    CtrL w mean mg mb 102 4 32 news [.ref d, .int k tk, .str word tw, .int now tn] (fun res news' => ∃ t t1 t2 o', news' = (t, tupO [.int (finR C top add row now).fine t1, .int now t2, .bool (finR C top add row now).out]) :: g o' ∧ o'.IsDictOf (PySem.intKind Mine.XL.row.prog w) (stored kvs k (.ref t)) ∧ (∀ p ∈ g o', p.1 < t) ∧ res = .bool (finR C top add row now).out) := by
  (w_top off; k_with_none; (k_with "my updF" => (first | assumption | exact UpdF.tail (my_ne (by assumption) (by assumption)) (by assumption))); (k_with "my upd" => (exact updF_upd (by assumption) _)); (k_with "my mem" => (first | exact updF_new (by assumption) _ | exact updF_old (by assumption) (by assumption) (by assumption) | (refine List.mem_cons_of_mem _ ?_; k_mem) | (refine List.mem_append_right _ ?_; k_mem))); (k_with "my islist" => (exact News.isList (by k_asm) (by k_mem))); (k_with "my fact" => (first | assumption | trivial | omega | (refine ⟨?_, ?_⟩ <;> omega) | ((try dsimp only); first | assumption | omega | l_fact))); (k_with "compareOp NotIn int ref" => ((k_here; k_dflt (refine my_notin (by k_asm) (by k_mem) (by k_asm) (by k_asm) _ (by assumption) ?_); (try dsimp only [Bool.not_true, Bool.not_false])))); (k_with "compareOp In int ref" => ((k_here; k_dflt (refine my_in (by k_asm) (by k_mem) (by k_asm) (by k_asm) _ (by assumption) ?_); (try dsimp only)))); (k_with "subscriptTail" => ((k_here; k_dflt (first
  | ((with_reducible show wpAny _ _ (subscriptTail _ _ (Value.ref _) (Value.str _ _)) _ _ _); refine kda_item (knd := PySem.strKind _ _) (by k_asm) (by k_mem) (by k_asm) (strKind_is _ _ _ _) (by assumption) ?_; (try dsimp only))
  | ((with_reducible show wpAny _ _ (subscriptTail _ _ (Value.ref _) (Value.int _ _)) _ _ _); refine kda_item (knd := PySem.intKind _ _) (by k_asm) (by k_mem) (by k_asm) (intKind_is _ _ _ _) (by assumption) ?_; (try dsimp only)))))); (k_with "call builtin:min" => ((k_here; (with_reducible show wpAny _ _ (call (Value.builtin _) [Value.int _ _, Value.int _ _, Value.int _ _]) _ _ _); (with_unfolding_all refine my_min3 (by with_unfolding_all rfl) (by k_asm) (by k_asm) ?_); k_whole); intro v9 t9 h9 tk9 c9 F9 N9; (have d9 := c9 (by omega)); clear c9; (try dsimp only))); (k_with "setItem ref int" => ((k_here; (with_reducible show wpAny _ _ (setItem (Value.ref _) (Value.int _ _) (Value.ref _)) _ _ _); k_dflt (refine kda_set (knd := PySem.intKind _ _) (by k_asm) (by k_asm) (by k_updF) (by k_asm) (intKind_is _ _ _ _) (by rw [sizeLine_eq]; omega) ?_)); intro h9 o9 F9 N9 hd9; (try dsimp only at N9); (try dsimp only))); (k_with "my sub" => (intro p9 hp9; repeat (first | exact hp9 | assumption | refine List.mem_cons_of_mem _ ?_ | refine List.mem_append_right _ ?_))); (k_with "call ref" => ((k_here; (with_reducible show wpAny _ _ (call (Value.ref 60) _) _ _ _); k_dflt (refine Ctr.cInt (by k_asm) (by k_asm) (by k_asm) (by k_asm) (by k_asm) (by first | exact rfl | assumption) (by (first | exact room3 (by assumption) (by rfl) | exact room2 (by assumption) (by rfl) | exact room1 (by assumption) | exact Nat.le_of_ble_eq_true rfl | ktr_room)) (by first | (first | exact room3 (by assumption) (by rfl) | exact room2 (by assumption) (by rfl) | exact room1 (by assumption) | exact Nat.le_of_ble_eq_true rfl | ktr_units) | exact Nat.le_of_ble_eq_true rfl | (have hcL9 := cLine_is; (try simp only [units_under_make, units_in1, units_deeper, Around.mark_units, units_caller] at *); (try dsimp only [ktrTop] at *); omega)) (decayed_c _ _ _ _ _ _ (by walk_at "my fact") (by walk_at "my fact") (by walk_at "my fact")) ?_); k_whole); intro h9 tk9 t9 F9 N9; (try dsimp only); (try k_fold))); (k_with "call ref" => ((k_here; (with_reducible show wpAny _ _ (call (Value.ref 95) _) _ _ _); k_dflt (refine Ctr.cInt (by k_asm) (by k_asm) (by k_asm) (by k_asm) (by k_asm) (by first | exact rfl | assumption) (by (first | exact room3 (by assumption) (by rfl) | exact room2 (by assumption) (by rfl) | exact room1 (by assumption) | exact Nat.le_of_ble_eq_true rfl | ktr_room)) (by first | (first | exact room3 (by assumption) (by rfl) | exact room2 (by assumption) (by rfl) | exact room1 (by assumption) | exact Nat.le_of_ble_eq_true rfl | ktr_units) | exact Nat.le_of_ble_eq_true rfl | (have hcL9 := cLine_is; (try simp only [units_under_make, units_in1, units_deeper, Around.mark_units, units_caller] at *); (try dsimp only [ktrTop] at *); omega)) (penalty_c _ _ _ _ _ _ (by first | assumption | exact DmpAt.mono (by assumption) (by walk_at "my sub")) (by assumption) (by assumption) (by first | assumption | exact RowAt.mono (by assumption) (by walk_at "my sub")) (by assumption)) ?_); k_whole); intro h9 tk9 t9 F9 N9; (try dsimp only); (try k_fold))); (k_with "call ref" => ((k_here; (with_reducible show wpAny _ _ (call (Value.ref 109) _) _ _ _); k_dflt (refine Ctr.cVal (by k_asm) (by k_asm) (by k_asm) (by k_asm) (by k_asm) (by first | exact rfl | assumption) (by (first | exact room3 (by assumption) (by rfl) | exact room2 (by assumption) (by rfl) | exact room1 (by assumption) | exact Nat.le_of_ble_eq_true rfl | ktr_room)) (by first | (first | exact room3 (by assumption) (by rfl) | exact room2 (by assumption) (by rfl) | exact room1 (by assumption) | exact Nat.le_of_ble_eq_true rfl | ktr_units) | exact Nat.le_of_ble_eq_true rfl | (have hcL9 := cLine_is; (try simp only [units_under_make, units_in1, units_deeper, Around.mark_units, units_caller] at *); (try dsimp only [ktrTop] at *); omega)) (is_left_out_c _ _ _ _ _ _ _ (by first | assumption | exact DmpAt.mono (by assumption) (by walk_at "my sub")) (by assumption) (by assumption) (by assumption) (by first | assumption | exact RowAt.mono (by assumption) (by walk_at "my sub")) (by assumption)) ?_); k_whole); intro h9 tk9 F9 N9; (try dsimp only); (try k_fold))))
  have D9 := D
  obtain ⟨hD, hX, hC', hCd, hR, hRd, hRs, hLen⟩ := D9
  refine ex7_1 (hX) fun x1 y1 x2 y2 x3 y3 y4 hX => ?_
  have a1 := ha.half
  have a3 := ha.reuse
  obtain ⟨th3, b3⟩ := ha.reuse
  obtain ⟨th4, b4⟩ := ha.suppress
  obtain ⟨th5, b5⟩ := id hadd
  have o1 : 1 ≤ C.half ∧ C.half ≤ 5 := ⟨by have := hC.half; omega, hC.half.2⟩
  have hmin : (if penR C.half row now + add < top then penR C.half row now + add else top) = min top (penR C.half row now + add) := by split <;> omega
  (unfold CtrL Ctr; k_fill; intro dp un gd cn cs a ccd cl outer A₀ base h₀ L m s0 Q E B F X N T hk hd hu hret; refine wpAny_call ?_; k_dflt ktr_enter; refine e_never ?_)
  k_steps
  all_goals (refine hret _ _ _ _ (by k_asm) (by k_asm) ⟨_, _, _, _, tup_eq ?_ ?_, by assumption, ?_, ?_⟩)
  all_goals (try (intro p hp; obtain ⟨y, hy, ey⟩ := updF_addr U hp; rw [← ey]; exact (by assumption : ∀ p ∈ news, p.1 < _) y hy))
  all_goals (try simp only [hmin] at *)
  all_goals first | (simp_all [finR]; done) | (simp_all [finR]; intros; omega)
theorem seconds_until_c {w : World} {mean : ExcName → Option Value} {mg mb : Str → Option Value} {news : Led} (p goal h : Int) (tp ts th : Tok)
    (hp : 0 ≤ p ∧ p < 1000000) (hg : 1 ≤ goal ∧ goal < 1000000) (hh : 1 ≤ h ∧ h ≤ 5) :
    CtrL w mean mg mb 74 2 16 news [.int p tp, .int goal ts, .int h th] (fun r news' => news' = news ∧ ∃ v t, r = .int v t ∧ Least p goal h v) := by
  (w_top off; k_with_none; (k_with "my updF" => (first | assumption | exact UpdF.tail (my_ne (by assumption) (by assumption)) (by assumption))); (k_with "my upd" => (exact updF_upd (by assumption) _)); (k_with "my mem" => (first | exact updF_new (by assumption) _ | exact updF_old (by assumption) (by assumption) (by assumption) | (refine List.mem_cons_of_mem _ ?_; k_mem) | (refine List.mem_append_right _ ?_; k_mem))); (k_with "my islist" => (exact News.isList (by k_asm) (by k_mem))); (k_with "my fact" => (first | assumption | trivial | omega | (refine ⟨?_, ?_⟩ <;> omega) | ((try dsimp only); first | assumption | omega | l_fact))); (k_with "compareOp NotIn int ref" => ((k_here; k_dflt (refine my_notin (by k_asm) (by k_mem) (by k_asm) (by k_asm) _ (by assumption) ?_); (try dsimp only [Bool.not_true, Bool.not_false])))); (k_with "compareOp In int ref" => ((k_here; k_dflt (refine my_in (by k_asm) (by k_mem) (by k_asm) (by k_asm) _ (by assumption) ?_); (try dsimp only)))); (k_with "subscriptTail" => ((k_here; k_dflt (first
  | ((with_reducible show wpAny _ _ (subscriptTail _ _ (Value.ref _) (Value.str _ _)) _ _ _); refine kda_item (knd := PySem.strKind _ _) (by k_asm) (by k_mem) (by k_asm) (strKind_is _ _ _ _) (by assumption) ?_; (try dsimp only))
  | ((with_reducible show wpAny _ _ (subscriptTail _ _ (Value.ref _) (Value.int _ _)) _ _ _); refine kda_item (knd := PySem.intKind _ _) (by k_asm) (by k_mem) (by k_asm) (intKind_is _ _ _ _) (by assumption) ?_; (try dsimp only)))))); (k_with "call builtin:min" => ((k_here; (with_reducible show wpAny _ _ (call (Value.builtin _) [Value.int _ _, Value.int _ _, Value.int _ _]) _ _ _); (with_unfolding_all refine my_min3 (by with_unfolding_all rfl) (by k_asm) (by k_asm) ?_); k_whole); intro v9 t9 h9 tk9 c9 F9 N9; (have d9 := c9 (by omega)); clear c9; (try dsimp only))); (k_with "setItem ref int" => ((k_here; (with_reducible show wpAny _ _ (setItem (Value.ref _) (Value.int _ _) (Value.ref _)) _ _ _); k_dflt (refine kda_set (knd := PySem.intKind _ _) (by k_asm) (by k_asm) (by k_updF) (by k_asm) (intKind_is _ _ _ _) (by rw [sizeLine_eq]; omega) ?_)); intro h9 o9 F9 N9 hd9; (try dsimp only at N9); (try dsimp only))); (k_with "my sub" => (intro p9 hp9; repeat (first | exact hp9 | assumption | refine List.mem_cons_of_mem _ ?_ | refine List.mem_append_right _ ?_))); (k_with "call ref" => ((k_here; (with_reducible show wpAny _ _ (call (Value.ref 60) _) _ _ _); k_dflt (refine Ctr.cInt (by k_asm) (by k_asm) (by k_asm) (by k_asm) (by k_asm) (by first | exact rfl | assumption) (by (first | exact room3 (by assumption) (by rfl) | exact room2 (by assumption) (by rfl) | exact room1 (by assumption) | exact Nat.le_of_ble_eq_true rfl | ktr_room)) (by first | (first | exact room3 (by assumption) (by rfl) | exact room2 (by assumption) (by rfl) | exact room1 (by assumption) | exact Nat.le_of_ble_eq_true rfl | ktr_units) | exact Nat.le_of_ble_eq_true rfl | (have hcL9 := cLine_is; (try simp only [units_under_make, units_in1, units_deeper, Around.mark_units, units_caller] at *); (try dsimp only [ktrTop] at *); omega)) (decayed_c _ _ _ _ _ _ (by walk_at "my fact") (by walk_at "my fact") (by walk_at "my fact")) ?_); k_whole); intro h9 tk9 t9 F9 N9; (try dsimp only); (try k_fold))); (k_with "exec While Compare cons nil" => (refine Stop.mk ?_)))
  have loop : ∀ n : Int, 0 ≤ n ∧ goal < dec p (n * h) h → n < 20 := fun n k => dec_half hh.1 hp.1 hp.2 hg.1 k.2
  (unfold CtrL Ctr; k_fill; intro dp un gd cn cs a ccd cl outer A₀ base h₀ L m s0 Q E B F X N T hk hd hu hret; refine wpAny_call ?_; k_dflt ktr_enter; refine e_never ?_)
  k_steps
  rotate_left
  refine Stop.go ?_
  (rename Fr _ _ _ _ => lF)
  (rename News _ _ _ _ => lN)
  refine ksw_while (σ := Int × Tok) (fun _ => news) (fun c => [(Str.ofString "times", .int c.1 c.2)]) (fun _ => True) [] (fun c => 0 ≤ c.1 ∧ c.1 < 20 ∧ goal < dec p (c.1 * h) h) (fun c => (30 - c.1).toNat) (0, _) lF lN trivial (fun q hq => by rw [List.mem_singleton.mp hq]; exact rfl) ⟨Int.le_refl 0, by show (0 : Int) < 20; decide, by show goal < dec p (0 * h) h; rw [Int.zero_mul, dec_zero hh.1]; omega⟩ ?_
  clear lF lN
  rintro ⟨n, tn⟩ u h1 tk1 _ ⟨n0, n20, nd⟩ F1 N1
  have m1 : 0 ≤ (n + 1) * h := Int.mul_nonneg (by omega) (by omega)
  have m2 : (n + 1) * h ≤ 20 * 5 := Int.le_trans (Int.mul_le_mul_of_nonneg_right (show n + 1 ≤ 20 by omega) (by omega)) (by omega)
  dsimp only at n0 n20 nd
  (try dsimp only)
  (try k_fold)
  k_steps
  · refine ksw_end (n + 1, _) (by assumption) (by assumption) (fun _ h => h) trivial (fun q hq => by rw [List.mem_singleton.mp hq]; exact rfl) (fun z h2 _ => by have h4 : z ≠ Str.ofString "times" := h2 _ (List.mem_singleton.mpr rfl); simp only [kstB, if_neg h4]; rfl) ⟨by show 0 ≤ n + 1; omega, loop (n + 1) ⟨by omega, by assumption⟩, by assumption⟩ (by show (30 - (n + 1)).toNat < (30 - n).toNat; omega)
  · refine hret _ news _ _ (by k_asm) ?_ ⟨rfl, _, _, rfl, least_of (by omega) hp.2 hg.1 hh.1 hh.2 n0 nd (by assumption) rfl⟩; (first | assumption | (refine cb_drop (by assumption) ?_; intro q9 hq9; simp only [List.mem_cons, hq9, or_true]))
  · refine hret _ news _ _ (by k_asm) ?_ ⟨rfl, _, _, rfl, least_zero hh.1 (by assumption)⟩; (first | assumption | (refine cb_drop (by assumption) ?_; intro q9 hq9; simp only [List.mem_cons, hq9, or_true]))
theorem reuse_time_c {w : World} {mean : ExcName → Option Value} {mg mb : Str → Option Value} {news : Led} {d dx c r : Addr} {oc orr : Obj} {kc : List (Str × Value)} {kvs : List (Int × Value)} {top : Int} (k now : Int) (C : Cfg) (row : Option Row) (tk tn : Tok)
    (D : DmpAt w news d dx c r oc orr kc kvs top) (hrow : RowAt news kvs k row) (hok : RowOk now row) (ha : CfgAt kc C) (hC : CfgOk C) :
    CtrL w mean mg mb 116 4 32 news [.ref d, .int k tk, .int now tn] (fun res news' => news' = news ∧ ((outR C.half C.reuse row now = false ∧ res = .none) ∨ (outR C.half C.reuse row now = true ∧ ∃ q v t, row = some q ∧ Least q.fine C.reuse C.half v ∧ res = .int (q.since + v) t))) := by
  (w_top off; k_with_none; (k_with "my updF" => (first | assumption | exact UpdF.tail (my_ne (by assumption) (by assumption)) (by assumption))); (k_with "my upd" => (exact updF_upd (by assumption) _)); (k_with "my mem" => (first | exact updF_new (by assumption) _ | exact updF_old (by assumption) (by assumption) (by assumption) | (refine List.mem_cons_of_mem _ ?_; k_mem) | (refine List.mem_append_right _ ?_; k_mem))); (k_with "my islist" => (exact News.isList (by k_asm) (by k_mem))); (k_with "my fact" => (first | assumption | trivial | omega | (refine ⟨?_, ?_⟩ <;> omega) | ((try dsimp only); first | assumption | omega | l_fact))); (k_with "compareOp NotIn int ref" => ((k_here; k_dflt (refine my_notin (by k_asm) (by k_mem) (by k_asm) (by k_asm) _ (by assumption) ?_); (try dsimp only [Bool.not_true, Bool.not_false])))); (k_with "compareOp In int ref" => ((k_here; k_dflt (refine my_in (by k_asm) (by k_mem) (by k_asm) (by k_asm) _ (by assumption) ?_); (try dsimp only)))); (k_with "subscriptTail" => ((k_here; k_dflt (first
  | ((with_reducible show wpAny _ _ (subscriptTail _ _ (Value.ref _) (Value.str _ _)) _ _ _); refine kda_item (knd := PySem.strKind _ _) (by k_asm) (by k_mem) (by k_asm) (strKind_is _ _ _ _) (by assumption) ?_; (try dsimp only))
  | ((with_reducible show wpAny _ _ (subscriptTail _ _ (Value.ref _) (Value.int _ _)) _ _ _); refine kda_item (knd := PySem.intKind _ _) (by k_asm) (by k_mem) (by k_asm) (intKind_is _ _ _ _) (by assumption) ?_; (try dsimp only)))))); (k_with "call builtin:min" => ((k_here; (with_reducible show wpAny _ _ (call (Value.builtin _) [Value.int _ _, Value.int _ _, Value.int _ _]) _ _ _); (with_unfolding_all refine my_min3 (by with_unfolding_all rfl) (by k_asm) (by k_asm) ?_); k_whole); intro v9 t9 h9 tk9 c9 F9 N9; (have d9 := c9 (by omega)); clear c9; (try dsimp only))); (k_with "setItem ref int" => ((k_here; (with_reducible show wpAny _ _ (setItem (Value.ref _) (Value.int _ _) (Value.ref _)) _ _ _); k_dflt (refine kda_set (knd := PySem.intKind _ _) (by k_asm) (by k_asm) (by k_updF) (by k_asm) (intKind_is _ _ _ _) (by rw [sizeLine_eq]; omega) ?_)); intro h9 o9 F9 N9 hd9; (try dsimp only at N9); (try dsimp only))); (k_with "my sub" => (intro p9 hp9; repeat (first | exact hp9 | assumption | refine List.mem_cons_of_mem _ ?_ | refine List.mem_append_right _ ?_))); (k_with "call ref" => ((k_here; (with_reducible show wpAny _ _ (call (Value.ref 60) _) _ _ _); k_dflt (refine Ctr.cInt (by k_asm) (by k_asm) (by k_asm) (by k_asm) (by k_asm) (by first | exact rfl | assumption) (by (first | exact room3 (by assumption) (by rfl) | exact room2 (by assumption) (by rfl) | exact room1 (by assumption) | exact Nat.le_of_ble_eq_true rfl | ktr_room)) (by first | (first | exact room3 (by assumption) (by rfl) | exact room2 (by assumption) (by rfl) | exact room1 (by assumption) | exact Nat.le_of_ble_eq_true rfl | ktr_units) | exact Nat.le_of_ble_eq_true rfl | (have hcL9 := cLine_is; (try simp only [units_under_make, units_in1, units_deeper, Around.mark_units, units_caller] at *); (try dsimp only [ktrTop] at *); omega)) (decayed_c _ _ _ _ _ _ (by walk_at "my fact") (by walk_at "my fact") (by walk_at "my fact")) ?_); k_whole); intro h9 tk9 t9 F9 N9; (try dsimp only); (try k_fold))); (k_with "call ref" => ((k_here; (with_reducible show wpAny _ _ (call (Value.ref 95) _) _ _ _); k_dflt (refine Ctr.cInt (by k_asm) (by k_asm) (by k_asm) (by k_asm) (by k_asm) (by first | exact rfl | assumption) (by (first | exact room3 (by assumption) (by rfl) | exact room2 (by assumption) (by rfl) | exact room1 (by assumption) | exact Nat.le_of_ble_eq_true rfl | ktr_room)) (by first | (first | exact room3 (by assumption) (by rfl) | exact room2 (by assumption) (by rfl) | exact room1 (by assumption) | exact Nat.le_of_ble_eq_true rfl | ktr_units) | exact Nat.le_of_ble_eq_true rfl | (have hcL9 := cLine_is; (try simp only [units_under_make, units_in1, units_deeper, Around.mark_units, units_caller] at *); (try dsimp only [ktrTop] at *); omega)) (penalty_c _ _ _ _ _ _ (by first | assumption | exact DmpAt.mono (by assumption) (by walk_at "my sub")) (by assumption) (by assumption) (by first | assumption | exact RowAt.mono (by assumption) (by walk_at "my sub")) (by assumption)) ?_); k_whole); intro h9 tk9 t9 F9 N9; (try dsimp only); (try k_fold))); (k_with "call ref" => ((k_here; (with_reducible show wpAny _ _ (call (Value.ref 109) _) _ _ _); k_dflt (refine Ctr.cVal (by k_asm) (by k_asm) (by k_asm) (by k_asm) (by k_asm) (by first | exact rfl | assumption) (by (first | exact room3 (by assumption) (by rfl) | exact room2 (by assumption) (by rfl) | exact room1 (by assumption) | exact Nat.le_of_ble_eq_true rfl | ktr_room)) (by first | (first | exact room3 (by assumption) (by rfl) | exact room2 (by assumption) (by rfl) | exact room1 (by assumption) | exact Nat.le_of_ble_eq_true rfl | ktr_units) | exact Nat.le_of_ble_eq_true rfl | (have hcL9 := cLine_is; (try simp only [units_under_make, units_in1, units_deeper, Around.mark_units, units_caller] at *); (try dsimp only [ktrTop] at *); omega)) (is_left_out_c _ _ _ _ _ _ _ (by first | assumption | exact DmpAt.mono (by assumption) (by walk_at "my sub")) (by assumption) (by assumption) (by assumption) (by first | assumption | exact RowAt.mono (by assumption) (by walk_at "my sub")) (by assumption)) ?_); k_whole); intro h9 tk9 F9 N9; (try dsimp only); (try k_fold))); (k_with "call ref" => ((k_here; (with_reducible show wpAny _ _ (call (Value.ref 74) _) _ _ _); k_dflt (refine Ctr.cSec (by k_asm) (by k_asm) (by k_asm) (by k_asm) (by k_asm) (by first | exact rfl | assumption) (by (first | exact room3 (by assumption) (by rfl) | exact room2 (by assumption) (by rfl) | exact room1 (by assumption) | exact Nat.le_of_ble_eq_true rfl | ktr_room)) (by first | (first | exact room3 (by assumption) (by rfl) | exact room2 (by assumption) (by rfl) | exact room1 (by assumption) | exact Nat.le_of_ble_eq_true rfl | ktr_units) | exact Nat.le_of_ble_eq_true rfl | (have hcL9 := cLine_is; (try simp only [units_under_make, units_in1, units_deeper, Around.mark_units, units_caller] at *); (try dsimp only [ktrTop] at *); omega)) (seconds_until_c _ _ _ _ _ _ (by walk_at "my fact") (by walk_at "my fact") (by walk_at "my fact")) ?_); k_whole); intro h9 tk9 v9 t9 c9 F9 N9; (try dsimp only); (try k_fold))))
  have D9 := D
  obtain ⟨hD, hX, hC', hCd, hR, hRd, hRs, hLen⟩ := D9
  refine ex7_1 (hX) fun x1 y1 x2 y2 x3 y3 y4 hX => ?_
  have a1 := ha.half
  have a3 := ha.reuse
  obtain ⟨th3, b3⟩ := ha.reuse
  obtain ⟨th4, b4⟩ := ha.half
  have o1 : 1 ≤ C.half ∧ C.half ≤ 5 := ⟨by have := hC.half; omega, hC.half.2⟩
  have o2 := hC.reuse
  cases row with
  | none =>
    have hv : (valueAt kvs k).isSome = false := by have h : valueAt kvs k = none := hrow; rw [h]; rfl
    (unfold CtrL Ctr; k_fill; intro dp un gd cn cs a ccd cl outer A₀ base h₀ L m s0 Q E B F X N T hk hd hu hret; refine wpAny_call ?_; k_dflt ktr_enter; refine e_never ?_)
    k_steps
    all_goals first
      | (refine hret _ news _ _ (by k_asm) ?_ ⟨rfl, .inl ⟨rfl, rfl⟩⟩; (first | assumption | (refine cb_drop (by assumption) ?_; intro q9 hq9; simp only [List.mem_cons, hq9, or_true])))
      | (exfalso; simp_all [outR]; done)
  | some q =>
    have hrow9 := hrow
    refine ex3_2 (hrow9) fun t t1 t2 hv0 hT => ?_
    have hok9 := hok
    obtain ⟨ho1, ho2, ho3, ho4⟩ := hok9
    have hv : (valueAt kvs k).isSome = true := by rw [hv0]; rfl
    (unfold CtrL Ctr; k_fill; intro dp un gd cn cs a ccd cl outer A₀ base h₀ L m s0 Q E B F X N T hk hd hu hret; refine wpAny_call ?_; k_dflt ktr_enter; refine e_never ?_)
    k_steps
    all_goals first
      | (refine hret _ news _ _ (by k_asm) ?_ ⟨rfl, .inl ⟨by simp_all, rfl⟩⟩; (first | assumption | (refine cb_drop (by assumption) ?_; intro q9 hq9; simp only [List.mem_cons, hq9, or_true])))
      | (refine hret _ news _ _ (by k_asm) ?_ ⟨rfl, .inr ⟨by simp_all, q, _, _, rfl, by assumption, rfl⟩⟩; (first | assumption | (refine cb_drop (by assumption) ?_; intro q9 hq9; simp only [List.mem_cons, hq9, or_true])))
section
variable {prog : Program} {w : World} {K : Frag} {p : Program} {loose : List Str} {mean : ExcName → Option Value} {mg mb : Str → Option Value} {f : Addr} {d0 u0 : Nat} {news : Led} {vs : List Value} {Post Post' : Value → Led → Prop}
theorem Ctr.mono (C : Ctr prog w K p loose mean mg mb f d0 u0 news vs Post) (h : ∀ r n, Post r n → Post' r n) : Ctr prog w K p loose mean mg mb f d0 u0 news vs Post' :=
  fun dp un gd cn cs a ccd cl outer A₀ base h₀ L m s Q E B F X N T hk hd hu ret => C dp un gd cn cs a ccd cl outer A₀ base h₀ L m s Q E B F X N T hk hd hu fun r n h' tk F' N' hP => ret r n h' tk F' N' (h r n hP)
end
theorem Ctr.mono' {prog : Program} {w : World} {K : Frag} {p : Program} {loose : List Str} {mean : ExcName → Option Value} {mg mb : Str → Option Value} {f : Addr} {d0 u0 : Nat} {news : Led} {vs : List Value} {Post Post' : Value → Led → Prop} (C : Ctr prog w K p loose mean mg mb f d0 u0 news vs Post) (h : ∀ r n, Post r n → ∃ n', (∀ p ∈ n', p ∈ n) ∧ Post' r n') : Ctr prog w K p loose mean mg mb f d0 u0 news vs Post' :=
  fun dp un gd cn cs a ccd cl outer A₀ base h₀ L m s Q E B F X N T hk hd hu ret => C dp un gd cn cs a ccd cl outer A₀ base h₀ L m s Q E B F X N T hk hd hu fun r n h' tk F' N' hP => let ⟨n', hs, hP'⟩ := h r n hP; ret r n' h' tk F' (fun p hp => N' p (hs p hp)) hP'
theorem updF_at {d : Addr} {o : Obj} {post : Led} (h2 : ∀ p ∈ post, p.1 ≠ d) : ∀ {pre : Led}, (∀ p ∈ pre, p.1 ≠ d) → ∃ g, UpdF d o (pre ++ (d, o) :: post) g ∧ ∀ o', g o' = pre ++ (d, o') :: post
  | [], _ => ⟨_, .head h2, fun _ => rfl⟩
  | p :: r, h => by
    obtain ⟨g, U, hg⟩ := updF_at h2 (pre := r) fun q hq => h q (.tail _ hq)
    exact ⟨_, .tail (h p (.head _)) U, fun o' => by show p :: g o' = _; rw [hg]; rfl⟩
/-- the ledger with one object of its changed -/
theorem led_upd {nx own : Led} {r : Addr} {o : Obj} (hm : (r, o) ∈ nx) (nd : (nx.map (·.1)).Nodup) (off : OwnOff own (nx.map (·.1))) :
    ∃ g, UpdF r o (nx ++ own) g ∧ ∀ o', ∃ nx', g o' = nx' ++ own ∧ nx'.map (·.1) = nx.map (·.1) ∧ (r, o') ∈ nx' ∧ ∀ p ∈ nx, p.1 ≠ r → p ∈ nx' := by
  obtain ⟨pre, post, rfl⟩ := List.append_of_mem hm
  have off' : ∀ p ∈ own, p.1 ≠ r := fun p hp => off p hp r (List.mem_map.mpr ⟨(r, o), hm, rfl⟩)
  simp only [List.map_append, List.map_cons] at nd
  obtain ⟨n1, n2, n3⟩ := List.nodup_append.mp nd
  have n2' := List.nodup_cons.mp n2
  obtain ⟨g, U, hg⟩ := updF_at (d := r) (o := o) (post := post ++ own) (pre := pre) (fun p hp => by
    rcases List.mem_append.mp hp with hp | hp
    · intro e; exact n2'.1 (List.mem_map.mpr ⟨p, hp, e⟩)
    · exact off' p hp) (fun p hp e => n3 p.1 (List.mem_map.mpr ⟨p, hp, rfl⟩) r (.head _) e)
  have e0 : pre ++ (r, o) :: (post ++ own) = pre ++ (r, o) :: post ++ own := by simp
  rw [e0] at U
  refine ⟨g, U, fun o' => ⟨pre ++ (r, o') :: post, ?_, ?_, List.mem_append_right _ (.head _), fun p hp hne => ?_⟩⟩
  · rw [hg]; simp
  · simp
  · rcases List.mem_append.mp hp with hp | hp
    · exact List.mem_append_left _ hp
    · rcases List.mem_cons.mp hp with rfl | hp
      · exact absurd rfl hne
      · exact List.mem_append_right _ (.tail _ hp)
theorem same_obj {nx : Led} (nd : (nx.map (·.1)).Nodup) {x : Addr} {o o' : Obj} (h : (x, o) ∈ nx) (h' : (x, o') ∈ nx) : o = o' := by
  induction nx with
  | nil => cases h
  | cons p r ih =>
    have n := List.nodup_cons.mp nd
    rcases List.mem_cons.mp h with e | h
    · rcases List.mem_cons.mp h' with e' | h'
      · exact congrArg Prod.snd (e.trans e'.symm)
      · exact absurd (List.mem_map.mpr ⟨_, h', by rw [← e]⟩) n.1
    · rcases List.mem_cons.mp h' with e' | h'
      · exact absurd (List.mem_map.mpr ⟨_, h, by rw [← e']⟩) n.1
      · exact ih n.2 h h'
theorem ne_of_cls {nx : Led} (nd : (nx.map (·.1)).Nodup) {x y : Addr} {o o' : Obj} (h : (x, o) ∈ nx) (h' : (y, o') ∈ nx) (hc : o.cls ≠ o'.cls) : x ≠ y := fun e => by
  subst e
  exact hc (congrArg Obj.cls (same_obj nd h h'))
theorem dict_cls {prog : Program} {w : World} {K : Type} [DecidableEq K] {knd : PySem.KeyKind prog w K} {o : Obj} {kvs : List (K × Value)} (h : o.IsDictOf knd kvs) : o.cls = .type "dict" := by
  obtain ⟨_, _, h, _⟩ := h
  exact h.1
theorem val_put {kvs : List (Int × Value)} {k : Int} {v : Value} : valueAt (stored kvs k v) k = some v := by
  unfold valueAt stored
  split
  · rename_i h
    induction kvs with
    | nil => cases h
    | cons q r ih =>
      simp only [List.any_cons, Bool.or_eq_true, decide_eq_true_eq] at h
      by_cases e : q.1 = k
      · simp [e]
      · simp only [List.map_cons, if_neg e, List.find?_cons, decide_eq_false e]
        exact ih (by simpa [e] using h)
  · rename_i h
    simp only [List.any_eq_true, decide_eq_true_eq, not_exists, not_and] at h
    rw [List.find?_append, List.find?_eq_none.mpr (fun x hx => by simpa using h x hx)]
    simp
theorem val_put_ne {kvs : List (Int × Value)} {k j : Int} {v : Value} (hne : j ≠ k) : valueAt (stored kvs k v) j = valueAt kvs j := by
  unfold valueAt stored
  split
  · rename_i h
    clear h
    induction kvs with
    | nil => rfl
    | cons q r ih =>
      by_cases e : q.1 = k
      · have e2 : ¬ q.1 = j := fun e3 => hne (e3.symm.trans e)
        simp only [List.map_cons, if_pos e, List.find?_cons, decide_eq_false e2]
        exact ih
      · simp only [List.map_cons, if_neg e, List.find?_cons]
        cases decide (q.1 = j) with
        | true => rfl
        | false => exact ih
  · rw [List.find?_append]
    cases h : kvs.find? fun kv => decide (kv.1 = j) with
    | some q => rfl
    | none => simp [Ne.symm hne]
theorem len_put {kvs : List (Int × Value)} {k : Int} {v : Value} : (stored kvs k v).length ≤ kvs.length + 1 := by
  unfold stored
  split
  · simp
  · simp
theorem len_put_has {kvs : List (Int × Value)} {k : Int} {v : Value} (h : (kvs.any fun kv => decide (kv.1 = k)) = true) : (stored kvs k v).length = kvs.length := by
  unfold stored
  rw [if_pos h]
  simp

section
variable {d : Addr} {o : Obj} {l : Led} {g : Obj → Led}
theorem updF_self (U : UpdF d o l g) : g o = l := by
  obtain ⟨pre, post, e, hg, _, _⟩ := U.split
  rw [hg, e]
theorem updF_again (U : UpdF d o l g) (o' : Obj) : UpdF d o' (g o') g := by
  induction U with
  | head h => exact .head h
  | tail h _ ih => exact .tail h ih
theorem updF_append {own : Led} (U : UpdF d o l g) (off : ∀ p ∈ own, p.1 ≠ d) : UpdF d o (l ++ own) (fun z => g z ++ own) := by
  induction U with
  | head h => exact .head fun p hp => (List.mem_append.mp hp).elim (h p) (off p)
  | tail h _ ih => exact .tail h ih
theorem updF_other (U : UpdF d o l g) {o' : Obj} {x : Addr} {ox : Obj} (h : (x, ox) ∈ l) (hc : ox.cls ≠ o.cls) : (x, ox) ∈ g o' := by
  obtain ⟨pre, post, e, hg, _, _⟩ := U.split
  rw [hg]
  rw [e] at h
  rcases List.mem_append.mp h with h | h
  · exact List.mem_append_left _ h
  · rcases List.mem_cons.mp h with h | h
    · cases h; exact absurd rfl hc
    · exact List.mem_append_right _ (.tail _ h)
theorem updF_map (U : UpdF d o l g) (o' : Obj) : (g o').map (·.1) = l.map (·.1) := by
  obtain ⟨pre, post, e, hg, _, _⟩ := U.split
  rw [hg, e]; simp
end
theorem val_without {kvs : List (Int × Value)} {k j : Int} (h : j ≠ k) : valueAt (without kvs k) j = valueAt kvs j := by
  unfold valueAt without
  induction kvs with
  | nil => rfl
  | cons q r ih =>
    by_cases e : q.1 = k
    · have e2 : ¬ q.1 = j := fun e3 => h (e3.symm.trans e)
      simp only [List.filter_cons, e, ne_eq, not_true, decide_false, Bool.false_eq_true, if_false, List.find?_cons]
      rw [decide_eq_false (show ¬ k = j from fun q => h q.symm)]
      simpa [e] using ih
    · simp only [List.filter_cons, e, ne_eq, not_false_eq_true, decide_true, if_true, List.find?_cons]
      cases decide (q.1 = j) with
      | true => rfl
      | false => simpa using ih
theorem val_without_self {kvs : List (Int × Value)} {k : Int} : valueAt (without kvs k) k = none := by
  unfold valueAt without
  rw [List.find?_eq_none.mpr (fun x hx => ?_)]
  · rfl
  · have := (List.mem_filter.mp hx).2
    simpa using this
theorem val_dels {j : Int} : ∀ {ks : List Int} {kvs : List (Int × Value)}, j ∉ ks → valueAt (ks.foldl without kvs) j = valueAt kvs j
  | [], _, _ => rfl
  | k :: ks, kvs, h => by
    rw [List.foldl_cons, val_dels (ks := ks) (fun q => h (.tail _ q)), val_without (fun q => h (by rw [q]; exact .head _))]
theorem val_dels_none {j : Int} : ∀ {ks : List Int} {kvs : List (Int × Value)}, valueAt kvs j = none → valueAt (ks.foldl without kvs) j = none
  | [], _, h => h
  | k :: ks, kvs, h => by
    rw [List.foldl_cons]
    refine val_dels_none (ks := ks) ?_
    by_cases e : j = k
    · rw [e]; exact val_without_self
    · rw [val_without e, h]
theorem val_dels_in {j : Int} : ∀ {ks : List Int} {kvs : List (Int × Value)}, j ∈ ks → valueAt (ks.foldl without kvs) j = none
  | k :: ks, kvs, h => by
    rw [List.foldl_cons]
    rcases List.mem_cons.mp h with rfl | h
    · exact val_dels_none val_without_self
    · exact val_dels_in h
theorem map_without {kvs : List (Int × Value)} {k : Int} : (without kvs k).map (·.1) = (kvs.map (·.1)).filter fun j => decide (j ≠ k) := by
  unfold without
  induction kvs with
  | nil => rfl
  | cons q r ih =>
    by_cases e : q.1 = k <;> simp [e] <;> simpa using ih
theorem map_dels : ∀ {ks : List Int} {kvs : List (Int × Value)}, (ks.foldl without kvs).map (·.1) = (kvs.map (·.1)).filter fun k => decide (k ∉ ks)
  | [], kvs => by
    rw [List.foldl_nil, List.filter_eq_self.mpr]
    intro a _; simp
  | k :: ks, kvs => by
    rw [List.foldl_cons, map_dels (ks := ks), map_without, List.filter_filter]
    congr 1
    funext j
    by_cases e : j = k <;> by_cases e2 : j ∈ ks <;> simp [e, e2]
theorem len_dels : ∀ {ks : List Int} {kvs : List (Int × Value)}, (ks.foldl without kvs).length ≤ kvs.length
  | [], _ => Nat.le_refl _
  | k :: ks, kvs => Nat.le_trans (len_dels (ks := ks)) (List.length_filter_le _ _)
theorem map_in {m : Str → Option Value} {x : Str} {v : Value} (h : m x = some v) : m = fun y => if y = x then some v else m y := by
  funext y
  by_cases e : y = x
  · rw [if_pos e, e, h]
  · rw [if_neg e]
theorem DmpAt.keep {w : World} {nx nx' : Led} {d dx c r s : Addr} {oc orr o : Obj} {kc : List (Str × Value)} {kvs : List (Int × Value)} {top : Int} (D : DmpAt w nx d dx c r oc orr kc kvs top) (keep : ∀ p ∈ nx, p.1 ≠ s → p ∈ nx')
    (h1 : d ≠ s) (h2 : dx ≠ s) (h3 : c ≠ s) (h4 : r ≠ s) : DmpAt w nx' d dx c r oc orr kc kvs top :=
  ⟨keep _ D.hd h1, let ⟨x1, y1, x2, y2, x3, y3, y4, q⟩ := D.hx; ⟨x1, y1, x2, y2, x3, y3, y4, keep _ q h2⟩, keep _ D.hc h3, D.hcd, keep _ D.hr h4, D.hrd, D.hrs, D.hlen⟩
noncomputable def IsWord (x : Str) : Prop := x = Str.ofString "withdrawn" ∨ x = Str.ofString "changed" ∨ x = Str.ofString "again"
noncomputable def wAdd (C : Cfg) (x : Str) : Int := if x = Str.ofString "withdrawn" then C.wd else if x = Str.ofString "changed" then C.ch else C.ag
theorem CfgAt.word {kc : List (Str × Value)} {C : Cfg} (h : CfgAt kc C) {x : Str} (hx : IsWord x) : CfgIs kc x (wAdd C x) := by
  rcases hx with rfl | rfl | rfl
  · exact h.wd
  · exact h.ch
  · exact h.ag
theorem CfgOk.word {C : Cfg} (h : CfgOk C) (x : Str) : 1 ≤ wAdd C x ∧ wAdd C x ≤ 300 := by
  unfold wAdd
  split
  · exact h.wd
  · split
    · exact h.ch
    · exact h.ag
section
variable {prog : Program} {w : World} {A : Around} {E : Value → Shared → Prop} {s : Shared} {env : Env} {h₀ : Heap} {x : Str} {body : List Stmt} {Q : Flow → Shared → Prop}
/-- a range by ones, its state any frame and ledger that J tells -/
theorem my_range {r : Addr} {a₀ b₀ : Int} {t₀ u₀ v₀ : Tok} {n : Nat} {m₀ : Str → Option Value} {news nx₀ : Led} (J : Nat → (Str → Option Value) → Led → Prop)
    (hh : A.handled = none) (hr : IsRange s.heap r a₀ b₀ 1 t₀ u₀ v₀) (hsmall : Builtin.Range.small a₀ b₀ 1 = true) (hsz : Builtin.Range.rangeSize a₀ b₀ 1 = (n : Int)) (F : Fr h₀ env.locals s.heap m₀) (N : News h₀ env.locals s.heap news) (hsub : ∀ p ∈ nx₀, p ∈ news) (hj : J 0 m₀ nx₀)
    (turn : ∀ (i : Nat) t m₁ nx h tk own, i < n → OwnOff own (nx.map (·.1)) → J i m₁ nx → Fr h₀ env.locals h (fun y => if y = x then some (.int (a₀ + i) t) else m₁ y) → News h₀ env.locals h (nx ++ own) →
      wpAny (model prog w) A (execs body env) (InvPostG h₀ env.locals (J (i + 1)) own { s with heap := h, toks := tk } Q) E { s with heap := h, toks := tk })
    (done : ∀ m₁ nx h tk, J n m₁ nx → Fr h₀ env.locals h m₁ → News h₀ env.locals h nx → Q .next { s with heap := h, toks := tk }) :
    wpAny (model prog w) A (pyIter (.ref r)) (fun it s₂ => LoopAtV prog w A h₀ env x body Q E it s₂) E s := by
  refine wpAny_pyIter_range hr hsmall ?_
  have hI : h₀.get? s.heap.objs.size = none := next_is_new F
  have hlow : ∀ p ∈ nx₀, p.1 < s.heap.objs.size := fun p hp => Heap.lt_size (N p (hsub p hp)).1
  refine kdr_loop (news := nx₀) J (Walks.range (prog := prog) (w := w) hh s.heap.objs.size a₀ 1 n).bound (fun _ q => q) (fun _ q => q) (fun i h q b hb => ?_) (fun q => ?_) (fun b hb => ?_) (fun p hp q => ?_) ?_ (F.push _) (fun p hp => ?_) hj ?_ done
  · rw [List.mem_singleton.mp hb]; exact ⟨_, q⟩
  · have := F.ns.lt
    rw [List.mem_singleton.mp q] at this
    exact Nat.lt_irrefl _ this
  · rw [List.mem_singleton.mp hb]; exact hI
  · have := hlow p hp
    rw [List.mem_singleton.mp q] at this
    exact Nat.lt_irrefl _ this
  · show IsRangeIter _ _ _ _ _
    rw [hsz]
    simpa using Heap.get?_push_size _ rfl
  · exact ⟨Heap.get?_push_of_some _ (N p (hsub p hp)).1, (N p (hsub p hp)).2⟩
  · rintro i v m₁ nx h tk own hi ⟨_, t, rfl⟩ hoff hJ F₁ N₁
    have e : a₀ + (i : Int) * 1 = a₀ + i := by omega
    rw [e] at F₁
    exact turn i t m₁ nx h tk own hi hoff hJ F₁ N₁
noncomputable def RoPost (x : Str) (h₀ : Heap) (L : Addr) (m₀ : Str → Option Value) (nw : Led) (s : Shared) (Q : Flow → Shared → Prop) (f : Flow) (s₂ : Shared) : Prop := match f with
  | .ret v => Q (.ret v) s₂
  | .brk => Q .next s₂
  | _ => ∃ h' tk' m', s₂ = { s with heap := h', toks := tk' } ∧ Fr h₀ L h' m' ∧ News h₀ L h' nw ∧ ∀ z, z ≠ x → m' z = m₀ z
/-- a range whose turns store no name but their own and leave the ledger as it was -/
theorem my_range_ro {r : Addr} {a₀ b₀ : Int} {t₀ u₀ v₀ : Tok} {n : Nat} {m₀ : Str → Option Value} {news : Led}
    (hh : A.handled = none) (hr : IsRange s.heap r a₀ b₀ 1 t₀ u₀ v₀) (hsmall : Builtin.Range.small a₀ b₀ 1 = true) (hsz : Builtin.Range.rangeSize a₀ b₀ 1 = (n : Int)) (F : Fr h₀ env.locals s.heap m₀) (N : News h₀ env.locals s.heap news)
    (turn : ∀ (i : Nat) t h tk nw, i < n → (∀ p ∈ news, p ∈ nw) → Fr h₀ env.locals h (fun y => if y = x then some (.int (a₀ + i) t) else m₀ y) → News h₀ env.locals h nw →
      wpAny (model prog w) A (execs body env) (RoPost x h₀ env.locals m₀ nw s Q) E { s with heap := h, toks := tk })
    (done : ∀ (u : Str → Option Value) h tk, Fr h₀ env.locals h (fun y => if y = x then u y else m₀ y) → News h₀ env.locals h news → Q .next { s with heap := h, toks := tk }) :
    wpAny (model prog w) A (pyIter (.ref r)) (fun it s₂ => LoopAtV prog w A h₀ env x body Q E it s₂) E s := by
  refine my_range (nx₀ := news) (fun _ m nx => nx = news ∧ ∀ z, z ≠ x → m z = m₀ z) hh hr hsmall hsz F N (fun _ q => q) ⟨rfl, fun _ _ => rfl⟩ ?_ ?_
  · rintro i t m₁ nx h tk own hi hoff ⟨rfl, hm⟩ F₁ N₁
    have em : (fun y => if y = x then some (Value.int (a₀ + i) t) else m₁ y) = fun y => if y = x then some (Value.int (a₀ + i) t) else m₀ y := by
      funext y
      by_cases q : y = x
      · simp only [if_pos q]
      · simp only [if_neg q]; exact hm y q
    rw [em] at F₁
    refine wpAny_mono (turn i t h tk (nx ++ own) hi (fun p hp => List.mem_append.mpr (.inl hp)) F₁ N₁) (fun f s₂ q => ?_) fun _ _ q => q
    cases f with
    | ret v => exact q
    | brk => exact q
    | next =>
      obtain ⟨h', tk', m', e, F', N', hz⟩ := q
      exact ⟨h', tk', m', nx ++ own, nx, e, F', N', fun p hp => List.mem_append.mpr (.inl hp), fun p hp => List.mem_append.mpr (.inr hp), hoff, rfl, hz⟩
    | cont =>
      obtain ⟨h', tk', m', e, F', N', hz⟩ := q
      exact ⟨h', tk', m', nx ++ own, nx, e, F', N', fun p hp => List.mem_append.mpr (.inl hp), fun p hp => List.mem_append.mpr (.inr hp), hoff, rfl, hz⟩
  · rintro m₁ nx h tk ⟨rfl, hm⟩ F₁ N₁
    refine done m₁ h tk ?_ N₁
    have em : (fun y => if y = x then m₁ y else m₀ y) = m₁ := by
      funext y
      by_cases q : y = x
      · simp only [if_pos q]
      · simp only [if_neg q]; exact (hm y q).symm
    rw [em]
    exact F₁
end
section
variable {prog : Program} {w : World} {A : Around} {E : Value → Shared → Prop} {s : Shared} {h₀ : Heap} {L d : Addr} {o : Obj} {m : Str → Option Value} {news : Led} {kvs : List (Int × Value)} {Q : Value → Shared → Prop}
theorem ints_of : ∀ {kvs : List (Int × Value)} {vs : List Value}, vs.length = kvs.length → (∀ (j : Nat) (v : Value), vs[j]? = some v → ∃ k x, kvs[j]? = some (k, x) ∧ (PySem.intKind prog w).is k v = true) → IntsAre vs (kvs.map (·.1))
  | [], [], _, _ => .nil
  | [], _ :: _, h, _ => nomatch h
  | _ :: _, [], h, _ => nomatch h
  | q :: r, v :: vs, h, hj => by
    obtain ⟨k, x, e, hk⟩ := hj 0 v rfl
    have e' : q = (k, x) := Option.some.inj e
    subst e'
    obtain ⟨t, rfl⟩ := Value.isInt_shape hk
    exact .cons _ t (ints_of (Nat.succ.inj h) fun j v' e => hj (j + 1) v' e)
/-- sorted of a dict whose keys are ints -/
theorem my_sorted {ns : List Int} (hh : A.handled = none) (F : Fr h₀ L s.heap m) (N : News h₀ L s.heap news) (hp : (d, o) ∈ news) (hd : o.IsDictOf (PySem.intKind prog w) kvs) (lo : (d == sysModules) = false) (hn : kvs.length < 64)
    (hperm : ns.Perm (kvs.map (·.1))) (hs : ns.Pairwise (· ≤ ·))
    (h : ∀ D vs c h' tk, Fr h₀ L h' m → News h₀ L h' ((D, W.listOf vs.toArray c) :: news) → (∀ q ∈ news, q.1 < D) → IntsAre vs ns → Q (.ref D) { s with heap := h', toks := tk }) :
    wpAny (model prog w) A (call (.builtin "sorted") [.ref d]) Q E s := by
  obtain ⟨ep, hat⟩ := (kda_dict N hp hd).dictAt
  refine kdu_sorted (kdl_dict (knd := PySem.intKind prog w) (kvs := kvs) (ep := ep) lo) hh F N hat (kdl_size (by omega)) fun D h' tk vs F' N' l1 hl hv => ?_
  have hI := ints_of (prog := prog) (w := w) hl hv
  have hD := (N' _ (.head _)).1
  refine wpAny_call_entry PyProof.Rows.slot_list_sort ⟨_, hD, rfl⟩ PyProof.Rows.entry_list_sort (list_sort_tree (n := 0) (vs := vs) hD hI (by rw [hl]; exact hn) fun out ns' a1 a2 a3 => ⟨.none, rfl, ?_⟩) (PyProof.Rows.args_list_sort _)
  have e : ns' = ns := lks_uniq (a2.trans hperm.symm) a3 hs
  subst e
  obtain ⟨c, hc⟩ := sortedHeap_at (out := out) (h := h') (a := D) (vs := vs) (n := 0) hD
  have keep : ∀ b o, b ≠ D → h'.get? b = some o → (sortedHeap h' D vs out).get? b = some o := fun b o hb e => by rw [sortedHeap_old hb (Heap.lt_size e)]; exact e
  have zD := N' _ (.head _)
  refine h D out.toList c _ tk ⟨F'.ns.at' fun o e => keep _ _ (Ne.symm zD.2.1) e, fun b o e => keep _ _ (fun q => by rw [q, zD.2.2] at e; cases e) (F'.keep b o e), F'.above⟩ ?_ l1 a1
  intro p hp
  rcases List.mem_cons.mp hp with rfl | hp
  · exact ⟨by rw [Array.toArray_toList]; exact hc, zD.2⟩
  · have z := N' p (.tail _ hp)
    exact ⟨keep _ _ (Nat.ne_of_lt (l1 p hp)) z.1, z.2⟩
end
noncomputable def secs (p g h : Int) : Int := @Classical.epsilon Int ⟨0⟩ (Least p g h)
theorem least_uniq {p g h v u : Int} (a : Least p g h v) (b : Least p g h u) : v = u := by
  obtain ⟨a1, a2, a3, a4⟩ := a
  obtain ⟨b1, b2, b3, b4⟩ := b
  rcases Int.lt_trichotomy v u with h1 | h1 | h1
  · have := b4 v a1 h1; omega
  · exact h1
  · have := a4 u b1 h1; omega
theorem secs_eq {p g h v : Int} (a : Least p g h v) : secs p g h = v := least_uniq (Classical.epsilon_spec (p := Least p g h) ⟨v, a⟩) a
noncomputable def keysOf (q1 q2 : Option Row) : List Int := (if q1.isSome then [1] else []) ++ (if q2.isSome then [2] else [])
noncomputable def whenR (C : Cfg) : Option Row → Int
  | none => 0
  | some q => q.since + secs q.fine C.reuse C.half
noncomputable def louts (C : Cfg) (k : Int) (q : Option Row) (now : Int) : List (Int × Int) := if outR C.half C.reuse q now = true then [(k, whenR C q)] else []
noncomputable def pairD (p : Int × Int) : Dat := .tuple [.int p.1, .int p.2]
structure Rows2 (news : Led) (kvs : List (Int × Value)) (q1 q2 : Option Row) : Prop where
  r1 : RowAt news kvs 1 q1
  r2 : RowAt news kvs 2 q2
  ks : (keysOf q1 q2).Perm (kvs.map (·.1))
theorem Rows2.mono {news news' : Led} {kvs : List (Int × Value)} {q1 q2 : Option Row} (R : Rows2 news kvs q1 q2) (h : ∀ p ∈ news, p ∈ news') : Rows2 news' kvs q1 q2 := ⟨R.r1.mono h, R.r2.mono h, R.ks⟩
theorem keysOf_sorted (q1 q2 : Option Row) : (keysOf q1 q2).Pairwise (· ≤ ·) := by
  cases q1 <;> cases q2 <;> simp [keysOf]
theorem Rows2.len {news : Led} {kvs : List (Int × Value)} {q1 q2 : Option Row} (R : Rows2 news kvs q1 q2) : kvs.length < 64 := by
  have h := R.ks.length_eq
  rw [List.length_map] at h
  rw [← h]
  cases q1 <;> cases q2 <;> simp [keysOf]
section
variable {h₀ : Heap} {L I C D T : Addr} {m : Str → Option Value} {s₁ : Shared} {oI oC oD oT : Obj} {S : Led → Prop} {rest : Value → Led → Prop} {y : Value} {h' : Heap} {tk : Nat} {nx : Led}
theorem compEnd_skip (F : Fr h₀ L h' m) (N : News h₀ L h' ((I, oI) :: (C, oC) :: (D, oD) :: nx)) (off : LCg.Off3 I C D nx) (hS : S nx) (r : rest y nx) : LCg.CompEnd h₀ L m s₁ I oI C oC D oD S rest y { s₁ with heap := h', toks := tk } :=
  LCg.CompEnd.intro F N nx (fun _ h => h) off hS r
theorem compEnd_one (F : Fr h₀ L h' m) (N : News h₀ L h' ((T, oT) :: (I, oI) :: (C, oC) :: (D, oD) :: nx)) (lt : ∀ p ∈ (I, oI) :: (C, oC) :: (D, oD) :: nx, p.1 < T) (off : LCg.Off3 I C D nx) (hS : S ((T, oT) :: nx)) (r : rest y ((T, oT) :: nx)) : LCg.CompEnd h₀ L m s₁ I oI C oC D oD S rest y { s₁ with heap := h', toks := tk } :=
  LCg.CompEnd.intro F N ((T, oT) :: nx) (fun p h => by
    rcases List.mem_cons.mp h with rfl | h
    · exact .tail _ (.head _)
    · rcases List.mem_cons.mp h with rfl | h
      · exact .tail _ (.tail _ (.head _))
      · rcases List.mem_cons.mp h with rfl | h
        · exact .tail _ (.tail _ (.tail _ (.head _)))
        · rcases List.mem_cons.mp h with rfl | h
          · exact .head _
          · exact .tail _ (.tail _ (.tail _ (.tail _ h)))) ⟨⟨Nat.ne_of_gt (lt _ (.head _)), Nat.ne_of_gt (lt _ (.tail _ (.head _))), Nat.ne_of_gt (lt _ (.tail _ (.tail _ (.head _))))⟩, off⟩ hS r
end
section
variable {prog : Program} {w : World} {A : Around} {h₀ : Heap} {L : Addr} {m : Str → Option Value} {env : Env} {ct elt : PySem.Expr} {x : Str} {scope : Scope} {cl : List (Str × Addr)} {s : Shared} {S : Led → Prop} {P : Nat → Value → Prop} {Fin : List Value → Led → Prop} {n : Nat}
theorem compEnd_rest {s₁ : Shared} {I C D : Addr} {oI oC oD : Obj} {rest rest' : Value → Led → Prop} {y : Value} {s₂ : Shared} (h : LCg.CompEnd h₀ L m s₁ I oI C oC D oD S rest y s₂) (k : ∀ n, rest y n → rest' y n) : LCg.CompEnd h₀ L m s₁ I oI C oC D oD S rest' y s₂ := by
  obtain ⟨h', tk, news', e, F, N, off, hS, r⟩ := h
  exact ⟨h', tk, news', e, F, N, off, hS, k _ r⟩
/-- a comprehension with one test, by what holds of its list and ledger -/
theorem comp_ind (J : Nat → List Value → Led → Prop)
    (turn : ∀ i ys nx, i < n → J i ys nx → ∀ v I oI C oC D m₂ h tk (E' : Value → Shared → Prop), P i v → LCg.NsObj oC m₂ → m₂ x = some v → Fr h₀ L h m → News h₀ L h ((I, oI) :: (C, oC) :: (D, LCg.lst ys) :: nx) → LCg.Off3 I C D nx →
      wpAny (model prog w) A (isTrue ct (compEnvC scope cl C env) (eval ct (compEnvC scope cl C env))) (fun ok s' => if ok = true then
        wpAny (model prog w) A (eval elt (compEnvC scope cl C env)) (LCg.CompEnd h₀ L m { s with heap := h, toks := tk } I oI C oC D (LCg.lst ys) S (fun y news' => J (i + 1) (ys ++ [y]) news')) E' s'
        else LCg.CompEnd h₀ L m { s with heap := h, toks := tk } I oI C oC D (LCg.lst ys) S (fun _ news' => J (i + 1) ys news') Value.none s') E' { s with heap := h, toks := tk })
    (fin : ∀ ys nx, J n ys nx → Fin ys nx) : ∀ (k i : Nat) (ys : List Value) (nx : Led), i + k = n → J i ys nx → LCt.CompRestT prog w A h₀ L m env ct elt x scope cl s S P Fin k i ys nx
  | 0, i, ys, nx, e, j => fin ys nx (by rw [← e]; exact j)
  | k + 1, i, ys, nx, e, j => LCt.CompRestT.succ fun v I oI C oC D m₂ h tk E' a1 a2 a3 a4 a5 a6 _ => by
    refine wpAny_mono (turn i ys nx (by omega) j v I oI C oC D m₂ h tk E' a1 a2 a3 a4 a5 a6) (fun ok s' q => ?_) fun _ _ q => q
    cases ok with
    | true =>
      simp only [if_true] at q ⊢
      exact wpAny_mono q (fun y s'' q => compEnd_rest q fun nx' q => comp_ind J turn fin k (i + 1) _ _ (by omega) q) fun _ _ q => q
    | false =>
      simp only [Bool.false_eq_true, if_false] at q ⊢
      exact compEnd_rest q fun nx' q => comp_ind J turn fin k (i + 1) _ _ (by omega) q
end
theorem IntsAre.item : ∀ {vs : List Value} {ks : List Int} {i : Nat} {v : Value}, IntsAre vs ks → vs[i]? = some v → ∃ k t, ks[i]? = some k ∧ v = .int k t
  | [], _, _, _, _, e => nomatch e
  | _ :: _, _, 0, _, h, e => by
    cases h with
    | cons k t h => exact ⟨k, t, rfl, (Option.some.inj e).symm⟩
  | _ :: _, _, i + 1, _, h, e => by
    cases h with
    | cons k t h => exact IntsAre.item (i := i) h e
theorem IntsAre.size : ∀ {vs : List Value} {ks : List Int}, IntsAre vs ks → vs.length = ks.length
  | [], _, h => by cases h; rfl
  | _ :: _, _, h => by
    cases h with
    | cons k t h => exact congrArg (· + 1) (IntsAre.size h)
noncomputable def rowOf (q1 q2 : Option Row) (k : Int) : Option Row := if k = 1 then q1 else q2
theorem keysOf_len (q1 q2 : Option Row) : (keysOf q1 q2).length ≤ 2 := by cases q1 <;> cases q2 <;> simp [keysOf]
theorem keysOf_item {q1 q2 : Option Row} {i : Nat} {k : Int} (h : (keysOf q1 q2)[i]? = some k) : (k = 1 ∨ k = 2) ∧ ∃ q, rowOf q1 q2 k = some q := by
  have hm := List.mem_of_getElem? h
  cases q1 <;> cases q2 <;> simp [keysOf] at hm
  · subst hm; exact ⟨.inr rfl, _, rfl⟩
  · subst hm; exact ⟨.inl rfl, _, rfl⟩
  · rcases hm with rfl | rfl
    · exact ⟨.inl rfl, _, rfl⟩
    · exact ⟨.inr rfl, _, rfl⟩
theorem take_next {α : Type} {l : List α} {i : Nat} {k : α} (h : l[i]? = some k) : l.take (i + 1) = l.take i ++ [k] := by
  rw [List.take_add_one, h]; rfl
theorem Rows2.at {news : Led} {kvs : List (Int × Value)} {q1 q2 : Option Row} (R : Rows2 news kvs q1 q2) {k : Int} (hk : k = 1 ∨ k = 2) : RowAt news kvs k (rowOf q1 q2 k) := by
  rcases hk with rfl | rfl
  · exact R.r1
  · exact R.r2
theorem rowOf_ok {now : Int} {q1 q2 : Option Row} {k : Int} (h1 : RowOk now q1) (h2 : RowOk now q2) : RowOk now (rowOf q1 q2 k) := by
  unfold rowOf; split
  · exact h1
  · exact h2
theorem louts_all (C : Cfg) (q1 q2 : Option Row) (now : Int) : (keysOf q1 q2).flatMap (fun k => louts C k (rowOf q1 q2 k) now) = louts C 1 q1 now ++ louts C 2 q2 now := by
  cases q1 <;> cases q2 <;> simp [keysOf, louts, rowOf, outR]
theorem louts_next {C : Cfg} {q1 q2 : Option Row} {now : Int} {i : Nat} {k : Int} (e : (keysOf q1 q2).take (i + 1) = (keysOf q1 q2).take i ++ [k]) :
    ((keysOf q1 q2).take (i + 1)).flatMap (fun k => louts C k (rowOf q1 q2 k) now) = ((keysOf q1 q2).take i).flatMap (fun k => louts C k (rowOf q1 q2 k) now) ++ louts C k (rowOf q1 q2 k) now := by
  rw [e, List.flatMap_append]; simp
theorem louts_some {C : Cfg} {q : Option Row} {r : Row} {k v now : Int} (ho : outR C.half C.reuse q now = true) (hq : q = some r) (hl : Least r.fine C.reuse C.half v) : louts C k q now = [(k, r.since + v)] := by
  unfold louts; rw [if_pos ho, hq]; simp only [whenR, secs_eq hl]
theorem louts_none {C : Cfg} {q : Option Row} {k now : Int} (ho : outR C.half C.reuse q now = false) : louts C k q now = [] := by
  unfold louts; rw [if_neg (by rw [ho]; exact Bool.false_ne_true)]
theorem dat_pair {nx : Led} {T : Addr} {k w : Int} {t u : Tok} {n : Nat} (h : (T, ({ cls := .type "tuple", data := .seq #[.int k t, .int w u] n } : Obj)) ∈ nx) : DatIn nx (.ref T) (pairD (k, w)) :=
  .tuple (vs := [.int k t, .int w u]) h (.cons (.int _ _) (.cons (.int _ _) .nil))
theorem dat_next {nx : Led} {p : Addr × Obj} {ys : List Value} {y : Value} {l : List (Int × Int)} {a : Int × Int} (h : DatAll nx ys (l.map pairD)) (hy : DatIn (p :: nx) y (pairD a)) : DatAll (p :: nx) (ys ++ [y]) ((l ++ [a]).map pairD) := by
  rw [List.map_append]; exact (h.mono fun _ h => .tail _ h).append (.one hy)
theorem allLt_mem {d : Nat} {l : Led} (h : AllLt d l) : ∀ p ∈ l, @LT.lt Nat _ p.1 d := by
  induction l with
  | nil => intro p hp; cases hp
  | cons q r ih =>
    intro p hp
    rcases List.mem_cons.mp hp with rfl | hp
    · exact h.1
    · exact ih h.2 p hp
theorem lt_three {I C D T : Addr} {oI oC oD : Obj} {nx : Led} (h : @LT.lt Nat _ I T ∧ @LT.lt Nat _ C T ∧ @LT.lt Nat _ D T ∧ AllLt T nx) : ∀ p ∈ (I, oI) :: (C, oC) :: (D, oD) :: nx, @LT.lt Nat _ p.1 T := by
  intro p hp
  rcases List.mem_cons.mp hp with rfl | hp
  · exact h.1
  · rcases List.mem_cons.mp hp with rfl | hp
    · exact h.2.1
    · rcases List.mem_cons.mp hp with rfl | hp
      · exact h.2.2.1
      · exact allLt_mem h.2.2.2 p hp
theorem off1_mem {D : Addr} {l : Led} (h : LCg.Off1 D l) : ∀ p ∈ l, p.1 ≠ D := by
  induction l with
  | nil => intro p hp; cases hp
  | cons q r ih =>
    intro p hp
    rcases List.mem_cons.mp hp with rfl | hp
    · exact h.1
    · exact ih h.2 p hp
theorem left_out_c {w : World} {mean : ExcName → Option Value} {mg mb : Str → Option Value} {news : Led} {d dx c r : Addr} {oc orr : Obj} {kc : List (Str × Value)} {kvs : List (Int × Value)} {top : Int} (now : Int) (C : Cfg) (q1 q2 : Option Row) (tn : Tok)
    (D : DmpAt w news d dx c r oc orr kc kvs top) (hrow : Rows2 news kvs q1 q2) (hok1 : RowOk now q1) (hok2 : RowOk now q2) (ha : CfgAt kc C) (hC : CfgOk C) :
    CtrL w mean mg mb 121 5 40 news [.ref d, .int now tn] (fun res news' => ∃ ex E vs n, news' = ex ++ news ∧ res = .ref E ∧ (E, W.listOf vs.toArray n) ∈ ex ∧ DatAll ex vs ((louts C 1 q1 now ++ louts C 2 q2 now).map pairD) ∧ ∀ p ∈ ex, ∀ q ∈ news, p.1 ≠ q.1) := by
  (w_top off; k_with_none; (k_with "my updF" => (first | assumption | exact UpdF.tail (my_ne (by assumption) (by assumption)) (by assumption))); (k_with "my upd" => (exact updF_upd (by assumption) _)); (k_with "my mem" => (first | exact updF_new (by assumption) _ | exact updF_old (by assumption) (by assumption) (by assumption) | (refine List.mem_cons_of_mem _ ?_; k_mem) | (refine List.mem_append_right _ ?_; k_mem))); (k_with "my islist" => (exact News.isList (by k_asm) (by k_mem))); (k_with "my fact" => (first | assumption | trivial | omega | (refine ⟨?_, ?_⟩ <;> omega) | ((try dsimp only); first | assumption | omega | l_fact))); (k_with "compareOp NotIn int ref" => ((k_here; k_dflt (refine my_notin (by k_asm) (by k_mem) (by k_asm) (by k_asm) _ (by assumption) ?_); (try dsimp only [Bool.not_true, Bool.not_false])))); (k_with "compareOp In int ref" => ((k_here; k_dflt (refine my_in (by k_asm) (by k_mem) (by k_asm) (by k_asm) _ (by assumption) ?_); (try dsimp only)))); (k_with "subscriptTail" => ((k_here; k_dflt (first
  | ((with_reducible show wpAny _ _ (subscriptTail _ _ (Value.ref _) (Value.str _ _)) _ _ _); refine kda_item (knd := PySem.strKind _ _) (by k_asm) (by k_mem) (by k_asm) (strKind_is _ _ _ _) (by assumption) ?_; (try dsimp only))
  | ((with_reducible show wpAny _ _ (subscriptTail _ _ (Value.ref _) (Value.int _ _)) _ _ _); refine kda_item (knd := PySem.intKind _ _) (by k_asm) (by k_mem) (by k_asm) (intKind_is _ _ _ _) (by assumption) ?_; (try dsimp only)))))); (k_with "call builtin:min" => ((k_here; (with_reducible show wpAny _ _ (call (Value.builtin _) [Value.int _ _, Value.int _ _, Value.int _ _]) _ _ _); (with_unfolding_all refine my_min3 (by with_unfolding_all rfl) (by k_asm) (by k_asm) ?_); k_whole); intro v9 t9 h9 tk9 c9 F9 N9; (have d9 := c9 (by omega)); clear c9; (try dsimp only))); (k_with "setItem ref int" => ((k_here; (with_reducible show wpAny _ _ (setItem (Value.ref _) (Value.int _ _) (Value.ref _)) _ _ _); k_dflt (refine kda_set (knd := PySem.intKind _ _) (by k_asm) (by k_asm) (by k_updF) (by k_asm) (intKind_is _ _ _ _) (by rw [sizeLine_eq]; omega) ?_)); intro h9 o9 F9 N9 hd9; (try dsimp only at N9); (try dsimp only))); (k_with "my sub" => (intro p9 hp9; repeat (first | exact hp9 | assumption | refine List.mem_cons_of_mem _ ?_ | refine List.mem_append_right _ ?_))); (k_with "call ref" => ((k_here; (with_reducible show wpAny _ _ (call (Value.ref 109) _) _ _ _); k_dflt (refine Ctr.cVal (by k_asm) (by k_asm) (by k_asm) (by k_asm) (by k_asm) (by first | exact rfl | assumption) (by (first | exact room3 (by assumption) (by rfl) | exact room2 (by assumption) (by rfl) | exact room1 (by assumption) | exact Nat.le_of_ble_eq_true rfl | ktr_room)) (by first | (first | exact room3 (by assumption) (by rfl) | exact room2 (by assumption) (by rfl) | exact room1 (by assumption) | exact Nat.le_of_ble_eq_true rfl | ktr_units) | exact Nat.le_of_ble_eq_true rfl | (have hcL9 := cLine_is; (try simp only [units_under_make, units_in1, units_deeper, Around.mark_units, units_caller] at *); (try dsimp only [ktrTop] at *); omega)) (is_left_out_c _ _ _ _ _ _ _ (by first | assumption | exact DmpAt.mono (by assumption) (by walk_at "my sub")) (by assumption) (by assumption) (by assumption) (by first | assumption | exact RowAt.mono (by assumption) (by walk_at "my sub")) (by assumption)) ?_); k_whole); intro h9 tk9 F9 N9; (try dsimp only); (try k_fold))); (k_with "call ref" => ((k_here; (with_reducible show wpAny _ _ (call (Value.ref 116) _) _ _ _); k_dflt ((refine Ctr.cWhen (by k_asm) (by k_asm) (by k_asm) (by k_asm) (by k_asm) (by first | exact rfl | assumption) (by (first | exact room3 (by assumption) (by rfl) | exact room2 (by assumption) (by rfl) | exact room1 (by assumption) | exact Nat.le_of_ble_eq_true rfl | ktr_room)) (by first | (first | exact room3 (by assumption) (by rfl) | exact room2 (by assumption) (by rfl) | exact room1 (by assumption) | exact Nat.le_of_ble_eq_true rfl | ktr_units) | exact Nat.le_of_ble_eq_true rfl | (have hcL9 := cLine_is; (try simp only [units_under_make, units_in1, units_deeper, Around.mark_units, units_caller] at *); (try dsimp only [ktrTop] at *); omega)) (reuse_time_c _ _ _ _ _ _ (by first | assumption | exact DmpAt.mono (by assumption) (by walk_at "my sub")) (by first | assumption | exact RowAt.mono (by assumption) (by walk_at "my sub")) (by assumption) (by assumption) (by assumption)) ?_ ?_) <;> (k_whole; first | intro h9 tk9 q9 v9 t9 ho9 hq9 hl9 F9 N9 | intro h9 tk9 ho9 F9 N9))); (all_goals (try dsimp only)); (all_goals (try k_fold)))); (k_with "call builtin:sorted" => ((k_here; (with_reducible show wpAny _ _ (call (Value.builtin "sorted") [Value.ref _]) _ _ _); k_dflt (refine my_sorted (by with_unfolding_all rfl) (by k_asm) (by k_asm) (by k_mem) (by k_asm) (by k_asm) (by exact Rows2.len (by assumption)) (by exact Rows2.ks (by assumption)) (by exact keysOf_sorted _ _) ?_); k_whole); intro D9 v9 c9 h9 tk9 F9 N9 lt9 hI9; (try dsimp only))); (k_with "CompSrcT" => (refine Stop.mk ?_)); (k_with "CompEnd" => (refine Stop.mk ?_)))
  have D9 := D
  obtain ⟨hD, hX, hC', hCd, hR, hRd, hRs, hLen⟩ := D9
  refine ex7_1 (hX) fun x1 y1 x2 y2 x3 y3 y4 hX => ?_
  have a1 := ha.half
  have a3 := ha.reuse
  have o1 : 1 ≤ C.half ∧ C.half ≤ 5 := ⟨by have := hC.half; omega, hC.half.2⟩
  (unfold CtrL Ctr; k_fill; intro dp un gd cn cs a ccd cl outer A₀ base h₀ L m s0 Q E B F X N T hk hd hu hret; refine wpAny_call ?_; k_dflt (refine' code_defC ?k1 ?k2 ?k3 ?k4 ?k5 ?kA ?kF ?kK ?k6 ?k7 ?k8 ?k9 ?kB ?kD ?_ ?c2 ?c3 ?c4; (case kA => exact rfl); (case kF => exact rfl); (case kK => assumption); (case k1 => k_asm); (case k2 => k_asm); (case k3 => k_asm); (case k4 => k_asm); (case k5 => k_asm); (case k6 => k_is); (case k7 => k_is); (case k8 => (first | exact room3 (by assumption) (by rfl) | exact room2 (by assumption) (by rfl) | exact room1 (by assumption) | exact Nat.le_of_ble_eq_true rfl | ktr_room)); (case k9 => exact BindsTo.of_eq rfl); (case kB => exact rfl); (case kD => decide +kernel); (case c2 => exact rfl); (case c3 => exact rfl); (case c4 => exact rfl); k_whole; intro g' L' h' tk' cells' FG' F' N' Y' B' X' T' l1; k_cells Y'; (try simp only [List.cons_append, List.nil_append] at N'); (try dsimp only); (try k_fold)); refine e_never ?_)
  rename_i oN oS dN dS
  replace dN : oN.data = .cell (some (.int now tn)) := dN
  replace dS : oS.data = .cell (some (.ref d)) := dS
  k_steps
  refine Stop.go ?_
  (rename IntsAre _ _ => hI)
  (rename News _ _ _ _ => lN)
  refine LCt.CompSrcT.ledger (by rfl) (by k_asm) lN (by k_mem) ?_ ?_
  · rw [List.size_toArray, IntsAre.size hI]; exact Nat.le_trans (keysOf_len q1 q2) (by rw [sizeLine_eq]; omega)
  intro g8
  have hbs : ∀ p ∈ news, p ∈ ((D9, W.listOf v9.toArray c9) :: (L' + 1 + 1, oN) :: (L' + 1, oS) :: news : Led) := fun p hp => .tail _ (.tail _ (.tail _ hp))
  have mN : (L' + 1 + 1, oN) ∈ ((D9, W.listOf v9.toArray c9) :: (L' + 1 + 1, oN) :: (L' + 1, oS) :: news : Led) := .tail _ (.head _)
  have mS : (L' + 1, oS) ∈ ((D9, W.listOf v9.toArray c9) :: (L' + 1 + 1, oN) :: (L' + 1, oS) :: news : Led) := .tail _ (.tail _ (.head _))
  have mD : (D9, W.listOf v9.toArray c9) ∈ ((D9, W.listOf v9.toArray c9) :: (L' + 1 + 1, oN) :: (L' + 1, oS) :: news : Led) := .head _
  generalize hbase : ((D9, W.listOf v9.toArray c9) :: (L' + 1 + 1, oN) :: (L' + 1, oS) :: news : Led) = base at lN hbs mN mS mD
  refine comp_ind (n := _) (fun i ys nx => ∃ tups, nx = tups ++ base ∧ DatAll tups ys ((((keysOf q1 q2).take i).flatMap fun k => louts C k (rowOf q1 q2 k) now).map pairD) ∧ ∀ p ∈ tups, ∀ q ∈ news, p.1 ≠ q.1) ?_ ?_ _ 0 [] _ (Nat.zero_add _) ⟨[], rfl, by simpa using DatAll.nil, fun _ h => nomatch h⟩
  · clear lN F9
    intro i ys nx hi hJ
    refine ex1_3 hJ fun tups e7 hdat hfr => ?_
    clear hJ; subst e7
    intro v I oI C' oC D' m₂ h8 tk8 E8 hv hNs hx F8 N8 off8
    simp only [List.getElem?_toArray] at hv
    refine ex2_2 (IntsAre.item hI hv) fun k t8 hk e7 => ?_; subst e7
    obtain ⟨hk12, q, hq⟩ := keysOf_item hk
    have hrow8 := hrow.at hk12
    have hok8 := rowOf_ok (k := k) hok1 hok2
    have e8 := take_next hk
    have D0 := D.mono hbs
    have h1 := D0.hd
    refine ex7_1 (D0.hx) fun x11 y11 x12 y12 x13 y13 y14 h2 => ?_
    (try dsimp only)
    have D8 := D.mono (fun p hp => List.mem_append_right tups (hbs p hp))
    have R8 := hrow8.mono (fun p hp => List.mem_append_right tups (hbs p hp))
    k_steps
    · exfalso; simp_all
    · refine Stop.go ?_
      (rename _ ∧ _ ∧ _ ∧ AllLt _ _ => lT)
      refine compEnd_one (by k_asm) (by k_asm) (lt_three lT) off8 (.inr ⟨_, .tail _ (List.mem_append_right _ mD), rfl, _, rfl⟩) ⟨_ :: tups, rfl, ?_, ?_⟩
      · rw [louts_next e8, louts_some ho9 hq9 hl9]
        exact dat_next hdat (dat_pair (.head _))
      · intro p hp q8 hq8
        rcases List.mem_cons.mp hp with rfl | hp
        · exact Nat.ne_of_gt (allLt_mem lT.2.2.2 q8 (List.mem_append_right _ (hbs q8 hq8)))
        · exact hfr p hp q8 hq8
    · refine Stop.go ?_
      refine compEnd_skip (by k_asm) (by k_asm) off8 (.inr ⟨_, List.mem_append_right _ mD, rfl, _, rfl⟩) ⟨tups, rfl, ?_, hfr⟩
      rw [louts_next e8, louts_none (by assumption), List.append_nil]
      exact hdat
  · intro ys nx hJ
    refine ex1_3 hJ fun tups e7 hdat hfr => ?_
    clear hJ; subst e7
    rw [List.size_toArray, IntsAre.size hI, List.take_length, louts_all] at hdat
    (try dsimp only)
    k_steps
    (rename Fr _ _ _ _ => fF)
    (rename News _ _ _ _ => fN)
    (rename LCg.Off1 _ _ => hof)
    refine hret _ ((_ :: tups) ++ news) _ _ fF (cb_drop fN ?_) ⟨_, _, ys, ys.length, rfl, rfl, .head _, hdat.mono (fun _ h => .tail _ h), ?_⟩
    · intro p hp
      rcases List.mem_append.mp hp with hp | hp
      · rcases List.mem_cons.mp hp with rfl | hp
        · exact .head _
        · exact .tail _ (List.mem_append_left _ hp)
      · exact .tail _ (List.mem_append_right _ (hbs _ hp))
    · intro p hp q8 hq8
      rcases List.mem_cons.mp hp with rfl | hp
      · exact fun e => off1_mem hof q8 (List.mem_append_right _ (hbs q8 hq8)) e.symm
      · exact hfr p hp q8 hq8
section
variable {prog : Program} {w : World} {A : Around} {h₀ : Heap} {L : Addr} {m : Str → Option Value} {env : Env} {elt : PySem.Expr} {x x₂ : Str} {scope : Scope} {cl : List (Str × Addr)} {s : Shared} {S : Led → Prop} {P : Nat → Value → Prop} {Fin : List Value → Led → Prop} {n : Nat}
/-- a comprehension over pairs, by what holds of its list and ledger -/
theorem comp_indP (J : Nat → List Value → Led → Prop)
    (turn : ∀ i ys nx, i < n → J i ys nx → ∀ v, P i v → ∃ (t : Addr) (ot : Obj) (v₁ v₂ : Value) (nt : Nat), v = .ref t ∧ (t, ot) ∈ nx ∧ ot.cls = .type "tuple" ∧ ot.data = .seq #[v₁, v₂] nt ∧
      ∀ I oI C oC D m₂ h tk (E' : Value → Shared → Prop), LCg.NsObj oC m₂ → m₂ x = some v₁ → m₂ x₂ = some v₂ → Fr h₀ L h m → News h₀ L h ((I, oI) :: (C, oC) :: (D, LCg.lst ys) :: nx) → LCg.Off3 I C D nx →
      wpAny (model prog w) A (eval elt (compEnvC scope cl C env)) (LCg.CompEnd h₀ L m { s with heap := h, toks := tk } I oI C oC D (LCg.lst ys) S (fun y news' => J (i + 1) (ys ++ [y]) news')) E' { s with heap := h, toks := tk })
    (fin : ∀ ys nx, J n ys nx → Fin ys nx) : ∀ (k i : Nat) (ys : List Value) (nx : Led), i + k = n → J i ys nx → LCp.CompRestP prog w A h₀ L m env elt x x₂ scope cl s S P Fin k i ys nx
  | 0, i, ys, nx, e, j => fin ys nx (by rw [← e]; exact j)
  | k + 1, i, ys, nx, e, j => LCp.CompRestP.succ fun v hv => by
    obtain ⟨t, ot, v₁, v₂, nt, a1, a2, a3, a4, T⟩ := turn i ys nx (by omega) j v hv
    exact ⟨t, ot, v₁, v₂, nt, a1, a2, a3, a4, fun I oI C oC D m₂ h tk E' b1 b2 b3 b4 b5 b6 _ => wpAny_mono (T I oI C oC D m₂ h tk E' b1 b2 b3 b4 b5 b6) (fun y s'' q => compEnd_rest q fun nx' q => comp_indP J turn fin k (i + 1) _ _ (by omega) q) fun _ _ q => q⟩
end
theorem DatAll.size {nx : Led} : ∀ {vs : List Value} {ds : List Dat}, DatAll nx vs ds → vs.length = ds.length := fun h => h.length
theorem dat_item {nx : Led} : ∀ {vs : List Value} {l : List (Int × Int)} {i : Nat} {v : Value}, DatAll nx vs (l.map pairD) → vs[i]? = some v → ∃ p t n t1 t2, l[i]? = some p ∧ v = .ref t ∧ (t, ({ cls := .type "tuple", data := .seq #[.int p.1 t1, .int p.2 t2] n } : Obj)) ∈ nx
  | [], [], _, _, _, e => nomatch e
  | [], _ :: _, _, _, h, _ => nomatch h
  | _ :: _, [], _, _, h, _ => nomatch h
  | v :: vs, p :: l, 0, _, h, e => by
    cases h with
    | cons h _ =>
      obtain rfl := Option.some.inj e
      unfold pairD at h
      cases h with
      | tuple hm hd =>
        cases hd with
        | cons h1 hd =>
          cases hd with
          | cons h2 hd =>
            cases hd
            cases h1
            cases h2
            exact ⟨p, _, _, _, _, rfl, rfl, hm⟩
  | v :: vs, p :: l, i + 1, _, h, e => by
    cases h with
    | cons _ h => exact dat_item (i := i) h e
theorem IntsAre.snoc : ∀ {vs : List Value} {ks : List Int} {k : Int} {t : Tok}, IntsAre vs ks → IntsAre (vs ++ [.int k t]) (ks ++ [k])
  | [], _, k, t, h => by cases h; exact .cons k t .nil
  | _ :: _, _, k, t, h => by
    cases h with
    | cons a b h => exact .cons a b (IntsAre.snoc h)
noncomputable def OptIs (v : Value) : Option Int → Prop
  | none => v = .none
  | some i => ∃ t, v = .int i t
theorem louts_form (C : Cfg) (k : Int) (q : Option Row) (now : Int) : louts C k q now = [] ∨ ∃ a, louts C k q now = [(k, a)] := by
  unfold louts; split
  · exact .inr ⟨_, rfl⟩
  · exact .inl rfl
theorem louts_len (C : Cfg) (q1 q2 : Option Row) (now : Int) : (louts C 1 q1 now ++ louts C 2 q2 now).length ≤ 2 := by
  rcases louts_form C 1 q1 now with e | ⟨a, e⟩ <;> rcases louts_form C 2 q2 now with e2 | ⟨b, e2⟩ <;> rw [e, e2] <;> simp
noncomputable def minO : List Int → Option Int
  | [] => none
  | [a] => some a
  | a :: b :: _ => some (min a b)
noncomputable def louts2 (C : Cfg) (q1 q2 : Option Row) (now : Int) : List (Int × Int) := louts C 1 q1 now ++ louts C 2 q2 now
theorem next_time_c {w : World} {mean : ExcName → Option Value} {mg mb : Str → Option Value} {news : Led} {d dx c r : Addr} {oc orr : Obj} {kc : List (Str × Value)} {kvs : List (Int × Value)} {top : Int} (now : Int) (C : Cfg) (q1 q2 : Option Row) (tn : Tok)
    (D : DmpAt w news d dx c r oc orr kc kvs top) (hrow : Rows2 news kvs q1 q2) (hok1 : RowOk now q1) (hok2 : RowOk now q2) (ha : CfgAt kc C) (hC : CfgOk C) :
    CtrL w mean mg mb 126 6 48 news [.ref d, .int now tn] (fun res news' => news' = news ∧ OptIs res (minO ((louts2 C q1 q2 now).map (·.2)))) := by
  (w_top off; k_with_none; (k_with "my updF" => (first | assumption | exact UpdF.tail (my_ne (by assumption) (by assumption)) (by assumption))); (k_with "my upd" => (exact updF_upd (by assumption) _)); (k_with "my mem" => (first | exact updF_new (by assumption) _ | exact updF_old (by assumption) (by assumption) (by assumption) | (refine List.mem_cons_of_mem _ ?_; k_mem) | (refine List.mem_append_right _ ?_; k_mem))); (k_with "my islist" => (exact News.isList (by k_asm) (by k_mem))); (k_with "my fact" => (first | assumption | trivial | omega | (refine ⟨?_, ?_⟩ <;> omega) | ((try dsimp only); first | assumption | omega | l_fact))); (k_with "compareOp In int ref" => ((k_here; k_dflt (refine my_in (by k_asm) (by k_mem) (by k_asm) (by k_asm) _ (by assumption) ?_); (try dsimp only)))); (k_with "subscriptTail" => ((k_here; k_dflt (first
  | ((with_reducible show wpAny _ _ (subscriptTail _ _ (Value.ref _) (Value.str _ _)) _ _ _); refine kda_item (knd := PySem.strKind _ _) (by k_asm) (by k_mem) (by k_asm) (strKind_is _ _ _ _) (by assumption) ?_; (try dsimp only))
  | ((with_reducible show wpAny _ _ (subscriptTail _ _ (Value.ref _) (Value.int _ _)) _ _ _); refine kda_item (knd := PySem.intKind _ _) (by k_asm) (by k_mem) (by k_asm) (intKind_is _ _ _ _) (by assumption) ?_; (try dsimp only)))))); (k_with "setItem ref int" => ((k_here; (with_reducible show wpAny _ _ (setItem (Value.ref _) (Value.int _ _) (Value.ref _)) _ _ _); k_dflt (refine kda_set (knd := PySem.intKind _ _) (by k_asm) (by k_asm) (by k_updF) (by k_asm) (intKind_is _ _ _ _) (by rw [sizeLine_eq]; omega) ?_)); intro h9 o9 F9 N9 hd9; (try dsimp only at N9); (try dsimp only))); (k_with "my sub" => (intro p9 hp9; repeat (first | exact hp9 | assumption | refine List.mem_cons_of_mem _ ?_ | refine List.mem_append_right _ ?_))); (k_with "call ref" => ((k_here; (with_reducible show wpAny _ _ (call (Value.ref 121) _) _ _ _); k_dflt (refine Ctr.cOut (by k_asm) (by k_asm) (by k_asm) (by k_asm) (by k_asm) (by first | exact rfl | assumption) (by (first | exact room3 (by assumption) (by rfl) | exact room2 (by assumption) (by rfl) | exact room1 (by assumption) | exact Nat.le_of_ble_eq_true rfl | ktr_room)) (by first | (first | exact room3 (by assumption) (by rfl) | exact room2 (by assumption) (by rfl) | exact room1 (by assumption) | exact Nat.le_of_ble_eq_true rfl | ktr_units) | exact Nat.le_of_ble_eq_true rfl | (have hcL9 := cLine_is; (try simp only [units_under_make, units_in1, units_deeper, Around.mark_units, units_caller] at *); (try dsimp only [ktrTop] at *); omega)) (left_out_c _ _ _ _ _ (by first | assumption | exact DmpAt.mono (by assumption) (by walk_at "my sub")) (by first | assumption | exact Rows2.mono (by assumption) (by walk_at "my sub")) (by assumption) (by assumption) (by assumption) (by assumption)) ?_); k_whole); intro h9 tk9 ex9 E9 vs9 c9 mE9 hI9 hfr9 F9 N9; (try dsimp only); (try k_fold))); (k_with "SrcLP" => (refine Stop.mk ?_)); (k_with "CompEnd" => (refine Stop.mk ?_)))
  have D9 := D
  obtain ⟨hD, hX, hC', hCd, hR, hRd, hRs, hLen⟩ := D9
  refine ex7_1 (hX) fun x1 y1 x2 y2 x3 y3 y4 hX => ?_
  (unfold CtrL Ctr; k_fill; intro dp un gd cn cs a ccd cl outer A₀ base h₀ L m s0 Q E B F X N T hk hd hu hret; refine wpAny_call ?_; k_dflt ktr_enter; refine e_never ?_)
  k_steps
  refine Stop.go ?_
  (rename DatAll _ _ _ => hI)
  (rename News _ _ _ _ => lN)
  refine LCp.SrcLP.ledger (by rfl) (by k_asm) lN (List.mem_append_left _ mE9) ?_ ?_
  · rw [List.size_toArray, DatAll.size hI, List.length_map]; exact Nat.le_trans (louts_len C q1 q2 now) (by rw [sizeLine_eq]; omega)
  intro g8
  have hbs : ∀ p ∈ news, p ∈ (ex9 ++ news : Led) := fun p hp => List.mem_append_right _ hp
  have hbx : ∀ p ∈ ex9, p ∈ (ex9 ++ news : Led) := fun p hp => List.mem_append_left _ hp
  generalize hbase : (ex9 ++ news : Led) = base at lN hbs hbx
  have hI' : DatAll ex9 vs9 ((louts2 C q1 q2 now).map pairD) := hI
  refine comp_indP (n := _) (fun i ys nx => nx = base ∧ IntsAre ys (((louts2 C q1 q2 now).take i).map (·.2))) ?_ ?_ _ 0 [] _ (Nat.zero_add _) ⟨rfl, .nil⟩
  · clear lN F9
    rintro i ys nx hi ⟨rfl, hys⟩ v hv
    simp only [List.getElem?_toArray] at hv
    refine ex5_3 (dat_item hI' hv) fun p t n t1 t2 hp e7 ht => ?_; subst e7
    refine ⟨t, _, _, _, n, rfl, hbx _ ht, rfl, rfl, ?_⟩
    intro I oI C' oC D' m₂ h8 tk8 E8 hNs hx hy F8 N8 off8
    have e8 := take_next hp
    (try dsimp only)
    k_steps
    refine Stop.go ?_
    refine compEnd_skip (by k_asm) (by k_asm) off8 (.inr ⟨_, hbx _ mE9, rfl, _, rfl⟩) ⟨rfl, ?_⟩
    rw [e8, List.map_append]
    exact IntsAre.snoc hys
  · rintro ys nx ⟨rfl, hys⟩
    rw [List.size_toArray, DatAll.size hI', List.length_map, List.take_length] at hys
    clear hI
    have hlen : (louts2 C q1 q2 now).length ≤ 2 := louts_len C q1 q2 now
    generalize louts2 C q1 q2 now = l at hys hret hlen
    (try dsimp only)
    rcases l with _ | ⟨p, _ | ⟨p2, _ | ⟨p3, l⟩⟩⟩
    · cases hys
      k_steps
      (rename Fr _ _ _ _ => fF)
      (rename News _ _ _ _ => fN)
      exact hret _ news _ _ fF (cb_drop fN fun p hp => .tail _ (hbs p hp)) ⟨rfl, rfl⟩
    · cases hys with | cons _ t1 h => ?_
      cases h
      k_steps
      (rename Fr _ _ _ _ => fF)
      (rename News _ _ _ _ => fN)
      exact hret _ news _ _ fF (cb_drop fN fun p hp => .tail _ (hbs p hp)) ⟨rfl, _, congrArg (fun z => Value.int z _) (by (try dsimp only); omega)⟩
    · cases hys with | cons _ t1 h => ?_
      cases h with | cons _ t2 h => ?_
      cases h
      k_steps
      (rename Fr _ _ _ _ => fF)
      (rename News _ _ _ _ => fN)
      exact hret _ news _ _ fF (cb_drop fN fun p hp => .tail _ (hbs p hp)) ⟨rfl, _, congrArg (fun z => Value.int z _) (by (try dsimp only); omega)⟩
    · simp at hlen
theorem filt_yes {l : List Int} {i : Nat} {k : Int} {p : Int → Bool} (e : l.take (i + 1) = l.take i ++ [k]) (h : p k = true) : (l.take (i + 1)).filter p = (l.take i).filter p ++ [k] := by
  rw [e, List.filter_append]; simp [h]
theorem filt_no {l : List Int} {i : Nat} {k : Int} {p : Int → Bool} (e : l.take (i + 1) = l.take i ++ [k]) (h : p k = false) : (l.take (i + 1)).filter p = (l.take i).filter p := by
  rw [e, List.filter_append]; simp [h]
noncomputable def lowR (C : Cfg) (now : Int) (q : Option Row) : Bool := decide (2 * penR C.half q now ≤ C.reuse)
noncomputable def isOut : Option Row → Bool
  | none => false
  | some r => r.out
noncomputable def goneKeys (C : Cfg) (now : Int) (q1 q2 : Option Row) : List Int := ((keysOf q1 q2).filter fun k => lowR C now (rowOf q1 q2 k)).filter fun k => !isOut (rowOf q1 q2 k)
theorem goneKeys_sub {C : Cfg} {now : Int} {q1 q2 : Option Row} {k : Int} (h : k ∈ goneKeys C now q1 q2) : k ∈ keysOf q1 q2 := (List.mem_filter.mp (List.mem_filter.mp h).1).1
theorem keysOf_nodup (q1 q2 : Option Row) : (keysOf q1 q2).Nodup := by cases q1 <;> cases q2 <;> simp [keysOf]
theorem goneKeys_nodup (C : Cfg) (now : Int) (q1 q2 : Option Row) : (goneKeys C now q1 q2).Nodup := ((keysOf_nodup q1 q2).filter _).filter _
theorem keysOf_mem {q1 q2 : Option Row} {k : Int} (h : k ∈ keysOf q1 q2) : (k = 1 ∨ k = 2) ∧ ∃ q, rowOf q1 q2 k = some q := by
  obtain ⟨i, hi⟩ := List.getElem?_of_mem h
  exact keysOf_item hi
theorem notin_take {l : List Int} {i : Nat} {k : Int} (hn : l.Nodup) (h : l[i]? = some k) : k ∉ l.take i := by
  intro hm
  obtain ⟨j, hj⟩ := List.getElem?_of_mem hm
  rw [List.getElem?_take] at hj
  split at hj
  · rename_i lt
    have := (List.getElem?_inj (by have := (List.getElem?_eq_some_iff.mp h).1; omega) hn).mp (hj.trans h.symm)
    omega
  · cases hj
theorem forget_c {w : World} {mean : ExcName → Option Value} {mg mb : Str → Option Value} {news : Led} {g : Obj → Led} {d dx c r : Addr} {oc orr : Obj} {kc : List (Str × Value)} {kvs : List (Int × Value)} {top : Int} (now : Int) (C : Cfg) (q1 q2 : Option Row) (tn : Tok)
    (D : DmpAt w news d dx c r oc orr kc kvs top) (U : UpdF r orr news g) (hrow : Rows2 news kvs q1 q2) (hok1 : RowOk now q1) (hok2 : RowOk now q2) (ha : CfgAt kc C) (hC : CfgOk C) (n1 : dx ≠ r) (n2 : c ≠ r) :
    CtrL w mean mg mb 138 5 40 news [.ref d, .int now tn] (fun res news' => ∃ E vs n o', news' = (E, W.listOf vs.toArray n) :: g o' ∧ (∀ p ∈ g o', p.1 ≠ E) ∧ res = .ref E ∧ IntsAre vs (goneKeys C now q1 q2) ∧ o'.IsDictOf (PySem.intKind Mine.XL.row.prog w) ((goneKeys C now q1 q2).foldl without kvs)) := by
  (w_top off; k_with_none; (k_with "my updF" => (first | assumption | exact UpdF.tail (my_ne (by assumption) (by assumption)) (by assumption))); (k_with "my upd" => (exact updF_upd (by assumption) _)); (k_with "my mem" => (first | exact updF_new (by assumption) _ | exact updF_old (by assumption) (by assumption) (by assumption) | (refine List.mem_cons_of_mem _ ?_; k_mem) | (refine List.mem_append_right _ ?_; k_mem))); (k_with "my islist" => (exact News.isList (by k_asm) (by k_mem))); (k_with "my fact" => (first | assumption | trivial | omega | (refine ⟨?_, ?_⟩ <;> omega) | ((try dsimp only); first | assumption | omega | l_fact))); (k_with "compareOp NotIn int ref" => ((k_here; k_dflt (refine my_notin (by k_asm) (by k_mem) (by k_asm) (by k_asm) _ (by assumption) ?_); (try dsimp only [Bool.not_true, Bool.not_false])))); (k_with "compareOp In int ref" => ((k_here; k_dflt (refine my_in (by k_asm) (by k_mem) (by k_asm) (by k_asm) _ (by assumption) ?_); (try dsimp only)))); (k_with "subscriptTail" => ((k_here; k_dflt (first
  | ((with_reducible show wpAny _ _ (subscriptTail _ _ (Value.ref _) (Value.str _ _)) _ _ _); refine kda_item (knd := PySem.strKind _ _) (by k_asm) (by k_mem) (by k_asm) (strKind_is _ _ _ _) (by assumption) ?_; (try dsimp only))
  | ((with_reducible show wpAny _ _ (subscriptTail _ _ (Value.ref _) (Value.int _ _)) _ _ _); refine kda_item (knd := PySem.intKind _ _) (by k_asm) (by k_mem) (by k_asm) (intKind_is _ _ _ _) (by assumption) ?_; (try dsimp only)))))); (k_with "setItem ref int" => ((k_here; (with_reducible show wpAny _ _ (setItem (Value.ref _) (Value.int _ _) (Value.ref _)) _ _ _); k_dflt (refine kda_set (knd := PySem.intKind _ _) (by k_asm) (by k_asm) (by k_updF) (by k_asm) (intKind_is _ _ _ _) (by rw [sizeLine_eq]; omega) ?_)); intro h9 o9 F9 N9 hd9; (try dsimp only at N9); (try dsimp only))); (k_with "my sub" => (intro p9 hp9; repeat (first | exact hp9 | assumption | refine List.mem_cons_of_mem _ ?_ | refine List.mem_append_right _ ?_))); (k_with "call ref" => ((k_here; (with_reducible show wpAny _ _ (call (Value.ref 95) _) _ _ _); k_dflt (refine Ctr.cInt (by k_asm) (by k_asm) (by k_asm) (by k_asm) (by k_asm) (by first | exact rfl | assumption) (by (first | exact room3 (by assumption) (by rfl) | exact room2 (by assumption) (by rfl) | exact room1 (by assumption) | exact Nat.le_of_ble_eq_true rfl | ktr_room)) (by first | (first | exact room3 (by assumption) (by rfl) | exact room2 (by assumption) (by rfl) | exact room1 (by assumption) | exact Nat.le_of_ble_eq_true rfl | ktr_units) | exact Nat.le_of_ble_eq_true rfl | (have hcL9 := cLine_is; (try simp only [units_under_make, units_in1, units_deeper, Around.mark_units, units_caller] at *); (try dsimp only [ktrTop] at *); omega)) (penalty_c _ _ _ _ _ _ (by first | assumption | exact DmpAt.mono (by assumption) (by walk_at "my sub")) (by assumption) (by assumption) (by first | assumption | exact RowAt.mono (by assumption) (by walk_at "my sub")) (by assumption)) ?_); k_whole); intro h9 tk9 t9 F9 N9; (try dsimp only); (try k_fold))); (k_with "call builtin:sorted" => ((k_here; (with_reducible show wpAny _ _ (call (Value.builtin "sorted") [Value.ref _]) _ _ _); k_dflt (refine my_sorted (by with_unfolding_all rfl) (by k_asm) (by k_asm) (by k_mem) (by k_asm) (by k_asm) (by exact Rows2.len (by assumption)) (by exact Rows2.ks (by assumption)) (by exact keysOf_sorted _ _) ?_); k_whole); intro D9 v9 c9 h9 tk9 F9 N9 lt9 hI9; (try dsimp only))); (k_with "CompSrcT" => (refine Stop.mk ?_)); (k_with "CompEnd" => (refine Stop.mk ?_)); (k_with "exec For Name Name cons nil" => ((k_here; (rename Fr _ _ _ _ => lF9); (with_unfolding_all refine For_invVF lF9 (by exact rfl) (by exact rfl) ?_); k_whole))); (k_with "pyIter ref" => (refine Stop.mk ?_)); (k_with "call builtin:dict.pop" => ((k_here; k_dflt (refine kob_pop (knd := PySem.intKind _ _) (more := []) (by k_asm) (by k_asm) (by k_updF) (by k_asm) (intKind_is _ _ _ _) (.inl rfl) (by rfl) (PySem.F.args_dict_pop_2 _ _) (by assumption) (by assumption) ?_)); intro h9 o9 F9 N9 hd9; (try dsimp only at N9); (try dsimp only))); (k_with "getMethod ref" => ((k_here; (with_reducible show wpAny _ _ (getMethod (Value.ref _) (Str.ofString "pop") _) _ _ _); k_dflt (refine kob_method (knd := PySem.intKind _ _) PySem.F.slot_dict_pop PySem.F.type_dict_pop (by k_asm) (by k_mem) (by k_asm) ?_)))))
  have D9 := D
  obtain ⟨hD, hX, hC', hCd, hR, hRd, hRs, hLen⟩ := D9
  refine ex7_1 (hX) fun x1 y1 x2 y2 x3 y3 y4 hX => ?_
  have a1 := ha.half
  have a3 := ha.reuse
  obtain ⟨th3, b3⟩ := ha.reuse
  have o1 : 1 ≤ C.half ∧ C.half ≤ 5 := ⟨by have := hC.half; omega, hC.half.2⟩
  (unfold CtrL Ctr; k_fill; intro dp un gd cn cs a ccd cl outer A₀ base h₀ L m s0 Q E B F X N T hk hd hu hret; refine wpAny_call ?_; k_dflt (refine' code_defC ?k1 ?k2 ?k3 ?k4 ?k5 ?kA ?kF ?kK ?k6 ?k7 ?k8 ?k9 ?kB ?kD ?_ ?c2 ?c3 ?c4; (case kA => exact rfl); (case kF => exact rfl); (case kK => assumption); (case k1 => k_asm); (case k2 => k_asm); (case k3 => k_asm); (case k4 => k_asm); (case k5 => k_asm); (case k6 => k_is); (case k7 => k_is); (case k8 => (first | exact room3 (by assumption) (by rfl) | exact room2 (by assumption) (by rfl) | exact room1 (by assumption) | exact Nat.le_of_ble_eq_true rfl | ktr_room)); (case k9 => exact BindsTo.of_eq rfl); (case kB => exact rfl); (case kD => decide +kernel); (case c2 => exact rfl); (case c3 => exact rfl); (case c4 => exact rfl); k_whole; intro g' L' h' tk' cells' FG' F' N' Y' B' X' T' l1; k_cells Y'; (try simp only [List.cons_append, List.nil_append] at N'); (try dsimp only); (try k_fold)); refine e_never ?_)
  rename_i oN oS dN dS
  replace dN : oN.data = .cell (some (.int now tn)) := dN
  replace dS : oS.data = .cell (some (.ref d)) := dS
  k_steps
  refine Stop.go ?_
  (rename IntsAre _ _ => hI)
  (rename News _ _ _ _ => lN)
  refine LCt.CompSrcT.ledger (by rfl) (by k_asm) lN (by k_mem) ?_ ?_
  · rw [List.size_toArray, IntsAre.size hI]; exact Nat.le_trans (keysOf_len q1 q2) (by rw [sizeLine_eq]; omega)
  intro g8
  have hbs : ∀ p ∈ news, p ∈ ((D9, W.listOf v9.toArray c9) :: (L' + 1 + 1, oN) :: (L' + 1, oS) :: news : Led) := fun p hp => .tail _ (.tail _ (.tail _ hp))
  have mN : (L' + 1 + 1, oN) ∈ ((D9, W.listOf v9.toArray c9) :: (L' + 1 + 1, oN) :: (L' + 1, oS) :: news : Led) := .tail _ (.head _)
  have mS : (L' + 1, oS) ∈ ((D9, W.listOf v9.toArray c9) :: (L' + 1 + 1, oN) :: (L' + 1, oS) :: news : Led) := .tail _ (.tail _ (.head _))
  have mD : (D9, W.listOf v9.toArray c9) ∈ ((D9, W.listOf v9.toArray c9) :: (L' + 1 + 1, oN) :: (L' + 1, oS) :: news : Led) := .head _
  generalize hbase : ((D9, W.listOf v9.toArray c9) :: (L' + 1 + 1, oN) :: (L' + 1, oS) :: news : Led) = base at lN hbs mN mS mD
  refine comp_ind (n := _) (fun i ys nx => nx = base ∧ IntsAre ys (((keysOf q1 q2).take i).filter fun k => lowR C now (rowOf q1 q2 k))) ?_ ?_ _ 0 [] _ (Nat.zero_add _) ⟨rfl, .nil⟩
  · clear lN F9
    rintro i ys nx hi ⟨rfl, hys⟩ v I oI C' oC D' m₂ h8 tk8 E8 hv hNs hx F8 N8 off8
    simp only [List.getElem?_toArray] at hv
    refine ex2_2 (IntsAre.item hI hv) fun k t8 hk e7 => ?_; subst e7
    obtain ⟨hk12, q, hq⟩ := keysOf_item hk
    have hrow8 := hrow.at hk12
    have hok8 := rowOf_ok (k := k) hok1 hok2
    have e8 := take_next hk
    have D0 := D.mono hbs
    have h1 := D0.hd
    refine ex7_1 (D0.hx) fun x11 y11 x12 y12 x13 y13 y14 h2 => ?_
    have h3 := D0.hc
    have R8 := hrow8.mono (fun p hp => (hbs p hp))
    (try dsimp only)
    k_steps
    · refine Stop.go ?_
      refine compEnd_skip (by k_asm) (by k_asm) off8 (.inr ⟨_, mD, rfl, _, rfl⟩) ⟨rfl, ?_⟩
      rw [filt_yes e8 (decide_eq_true (by assumption))]
      exact IntsAre.snoc hys
    · refine Stop.go ?_
      refine compEnd_skip (by k_asm) (by k_asm) off8 (.inr ⟨_, mD, rfl, _, rfl⟩) ⟨rfl, ?_⟩
      rw [filt_no e8 (decide_eq_false (by assumption))]
      exact hys
  · rintro ys nx ⟨rfl, hys⟩
    rw [List.size_toArray, IntsAre.size hI, List.take_length] at hys
    clear lN F9
    (try dsimp only)
    k_steps
    refine Stop.go ?_
    (rename LCg.Off1 _ _ => hoff1)
    (rename News _ _ _ _ => lN)
    refine LCt.CompSrcT.ledger (by rfl) (by k_asm) lN (.head _) ?_ ?_
    · rw [List.size_toArray, IntsAre.size hys]; exact Nat.le_trans (Nat.le_trans (List.length_filter_le _ _) (keysOf_len q1 q2)) (by rw [sizeLine_eq]; omega)
    intro g9
    rename_i D2 hh2 tt2 FF2
    have hbs2 : ∀ p ∈ news, p ∈ ((D2, LCg.lst ys) :: nx : Led) := fun p hp => .tail _ (hbs p hp)
    have mS2 : (L' + 1, oS) ∈ ((D2, LCg.lst ys) :: nx : Led) := .tail _ mS
    have mD2 : (D2, LCg.lst ys) ∈ ((D2, LCg.lst ys) :: nx : Led) := .head _
    generalize hbase2 : ((D2, LCg.lst ys) :: nx : Led) = base2 at lN hbs2 mS2 mD2
    refine comp_ind (n := _) (fun i zs nz => nz = base2 ∧ IntsAre zs ((((keysOf q1 q2).filter fun k => lowR C now (rowOf q1 q2 k)).take i).filter fun k => !isOut (rowOf q1 q2 k))) ?_ ?_ _ 0 [] _ (Nat.zero_add _) ⟨rfl, .nil⟩
    · clear lN FF2 hbase2 hbase
      rintro i zs nz hi ⟨rfl, hzs⟩ v I oI C' oC D' m₂ h8 tk8 E8 hv hNs hx F8 N8 off8
      simp only [List.getElem?_toArray] at hv
      refine ex2_2 (IntsAre.item hys hv) fun k t8 hk e7 => ?_; subst e7
      obtain ⟨hk12, q, hq⟩ := keysOf_mem (List.mem_filter.mp (List.mem_of_getElem? hk)).1
      have e8 := take_next hk
      have D0 := D.mono hbs2
      have h1 := D0.hd
      refine ex7_1 (D0.hx) fun x11 y11 x12 y12 x13 y13 y14 h2 => ?_
      have h3 := D0.hr
      have hrow8 := hrow.at hk12
      rw [hq] at hrow8
      refine ex3_2 (hrow8.mono hbs2) fun t u1 u2 hv0 hT => ?_
      (try dsimp only)
      k_steps
      · refine Stop.go ?_
        refine compEnd_skip (by k_asm) (by k_asm) off8 (.inr ⟨_, mD2, rfl, _, rfl⟩) ⟨rfl, ?_⟩
        rw [filt_no e8 (by rw [hq]; simp_all [isOut])]
        exact hzs
      · refine Stop.go ?_
        refine compEnd_skip (by k_asm) (by k_asm) off8 (.inr ⟨_, mD2, rfl, _, rfl⟩) ⟨rfl, ?_⟩
        rw [filt_yes e8 (by rw [hq]; simp_all [isOut])]
        exact IntsAre.snoc hzs
    · rintro zs nz ⟨rfl, hzs⟩
      rw [List.size_toArray, IntsAre.size hys, List.take_length] at hzs
      have hzs' : IntsAre zs (goneKeys C now q1 q2) := hzs
      clear lN FF2
      (try dsimp only)
      k_steps
      refine Stop.go ?_
      rename_i D3 hh3 tt3 N3 o3
      (rename Fr _ _ _ _ => lF)
      have off3 := off1_mem o3
      have cd := dict_cls hRd
      have hr0 : r ≠ D3 := off3 _ (hbs2 _ hR)
      have hrL : (L' + 1 : Nat) ≠ r := Nat.ne_of_gt (Nat.lt_succ_of_lt (l1 _ hR))
      refine kdl_iter (l := D3) (vs := zs) (nn := zs.length) (news := (D3, LCg.lst zs) :: (L' + 1, oS) :: g orr) (fun i m nx => (m (Str.ofString "gone") = some (.ref D3)) ∧ ∃ o', nx = (D3, LCg.lst zs) :: (L' + 1, oS) :: g o' ∧ o'.IsDictOf (PySem.intKind Mine.XL.row.prog w) (((goneKeys C now q1 q2).take i).foldl without kvs)) rfl (.head _) lF ?_ ⟨rfl, orr, rfl, hRd⟩ ?_ ?_
      · rw [updF_self U]
        intro p hp
        rcases List.mem_cons.mp hp with rfl | hp
        · exact N3 _ (.head _)
        · rcases List.mem_cons.mp hp with rfl | hp
          · exact N3 _ (.tail _ mS2)
          · exact N3 _ (.tail _ (hbs2 _ hp))
      · clear lF N3 hbase2 hbase
        intro i v m₁ nx1 h1 tk1 own hv hoff hmem hJ
        refine ex0_2 hJ fun hm hJ2 => ?_
        refine ex1_2 hJ2 fun o' e7 hd' => ?_
        clear hJ hJ2; subst e7
        intro F1 N1
        refine ex2_2 (IntsAre.item hzs' hv) fun k t8 hk e7 => ?_; subst e7
        obtain ⟨hk12, q, hq⟩ := keysOf_mem (goneKeys_sub (List.mem_of_getElem? hk))
        have e8 := take_next hk
        have U1 : UpdF r o' ((D3, LCg.lst zs) :: (L' + 1, oS) :: (g o' ++ own)) (fun z => (D3, LCg.lst zs) :: (L' + 1, oS) :: (g z ++ own)) := .tail (fun q => hr0 q.symm) (.tail hrL (updF_append (updF_again U o') fun p hp => hoff p hp r (.tail _ (.tail _ (by rw [updF_map U]; exact List.mem_map.mpr ⟨_, hR, rfl⟩)))))
        have m1 : (d, instObj 141 dx) ∈ ((D3, LCg.lst zs) :: (L' + 1, oS) :: (g o' ++ own) : Led) := .tail _ (.tail _ (List.mem_append_left _ (updF_other U hD (by rw [cd]; exact fun h => nomatch h))))
        have m2 := List.mem_cons_of_mem (D3, LCg.lst zs) (List.mem_cons_of_mem (L' + 1, oS) (List.mem_append_left own (updF_old U (o' := o') hX n1)))
        have m3 : (L' + 1, oS) ∈ ((D3, LCg.lst zs) :: (L' + 1, oS) :: (g o' ++ own) : Led) := .tail _ (.head _)
        have m4 : (r, o') ∈ ((D3, LCg.lst zs) :: (L' + 1, oS) :: (g o' ++ own) : Led) := .tail _ (.tail _ (List.mem_append_left _ (updF_new U o')))
        have hz : (((goneKeys C now q1 q2).take i).foldl without kvs).length ≤ sizeLine := Nat.le_trans len_dels (Nat.le_trans hLen (by rw [sizeLine_eq]; omega))
        have hrow8 := hrow.at hk12
        rw [hq] at hrow8
        refine ex3_2 (hrow8) fun t u1 u2 hv0 hT => ?_; clear hrow8
        have hv1 : valueAt (((goneKeys C now q1 q2).take i).foldl without kvs) k = some (.ref t) := by rw [val_dels (notin_take (goneKeys_nodup C now q1 q2) hk)]; exact hv0
        simp only [List.cons_append] at N1
        generalize hnw : ((D3, LCg.lst zs) :: (L' + 1, oS) :: (g o' ++ own) : Led) = nw at U1 m1 m2 m3 m4 N1
        rw [map_in hm] at F1
        (try dsimp only)
        k_steps
        (rename Fr _ _ _ _ => fF)
        (rename News _ _ _ _ => fN)
        (rename Obj.IsDictOf _ _ _ => fD)
        refine ⟨_, _, _, _, (D3, LCg.lst zs) :: (L' + 1, oS) :: g o9, rfl, fF, fN, ?_, ?_, ?_, .head _, by rfl, o9, rfl, ?_⟩
        · intro p hp
          rcases List.mem_cons.mp hp with rfl | hp
          · exact .head _
          · rcases List.mem_cons.mp hp with rfl | hp
            · exact .tail _ (.head _)
            · exact .tail _ (.tail _ (List.mem_append_left _ hp))
        · exact fun p hp => .tail _ (.tail _ (List.mem_append_right _ hp))
        · simp only [List.map_cons, updF_map U] at hoff ⊢
          exact hoff
        · rw [e8, List.foldl_append]; exact fD
      · clear lF N3 hbase2 hbase
        intro m₁ nx1 h1 tk1 hJ
        refine ex0_2 hJ fun hm hJ2 => ?_
        refine ex1_2 hJ2 fun o' e7 hd' => ?_
        clear hJ hJ2; subst e7
        intro F1 N1
        rw [IntsAre.size hzs', List.take_length] at hd'
        rw [map_in hm] at F1
        (try dsimp only)
        k_steps
        (rename Fr _ _ _ _ => fF)
        (rename News _ _ _ _ => fN)
        refine hret _ ((D3, LCg.lst zs) :: g o') _ _ fF (cb_drop fN ?_) ⟨D3, zs, zs.length, o', rfl, ?_, rfl, hzs', hd'⟩
        · intro p hp
          rcases List.mem_cons.mp hp with rfl | hp
          · exact .head _
          · exact .tail _ (.tail _ hp)
        · intro p hp
          obtain ⟨y, hy, e⟩ := updF_addr U hp
          rw [← e]; exact off3 y (hbs2 _ hy)
noncomputable def toReuse (C : Cfg) (now : Int) (q : Option Row) : Bool := isOut q && !outR C.half C.reuse q now
noncomputable def reuseR (C : Cfg) (now : Int) (q : Option Row) : Option Row := match q with
  | none => none
  | some r => if toReuse C now (some r) = true then some { fine := penR C.half (some r) now, since := now, out := false } else some r
noncomputable def reuseKeys (C : Cfg) (now : Int) (q1 q2 : Option Row) : List Int := (keysOf q1 q2).filter fun k => toReuse C now (rowOf q1 q2 k)
noncomputable def stepRow (C : Cfg) (now : Int) (q1 q2 : Option Row) (ks : List Int) (k : Int) : Option Row := if k ∈ ks then reuseR C now (rowOf q1 q2 k) else rowOf q1 q2 k
theorem stepRow_keep {C : Cfg} {now : Int} {q1 q2 : Option Row} {ks : List Int} {k j : Int} (h : reuseR C now (rowOf q1 q2 k) = rowOf q1 q2 k) : stepRow C now q1 q2 (ks ++ [k]) j = stepRow C now q1 q2 ks j := by
  unfold stepRow
  by_cases e : j = k
  · subst e
    by_cases e2 : j ∈ ks <;> simp [e2, h]
  · simp [e]
theorem stepRow_ne {C : Cfg} {now : Int} {q1 q2 : Option Row} {ks : List Int} {k j : Int} (h : j ≠ k) : stepRow C now q1 q2 (ks ++ [k]) j = stepRow C now q1 q2 ks j := by
  unfold stepRow; simp [h]
theorem stepRow_self {C : Cfg} {now : Int} {q1 q2 : Option Row} {ks : List Int} {k : Int} : stepRow C now q1 q2 (ks ++ [k]) k = reuseR C now (rowOf q1 q2 k) := by
  unfold stepRow; simp
/-- the state between two turns -/
structure RuJ (w : World) (news : Led) (g : Obj → Led) (r : Addr) (kvs : List (Int × Value)) (C : Cfg) (now : Int) (q1 q2 : Option Row) (ks : List Int) (tups : Led) (o' : Obj) (kv' : List (Int × Value)) (fs : List Value) : Prop where
  hd : o'.IsDictOf (PySem.intKind Mine.XL.row.prog w) kv'
  keys : kv'.map (·.1) = kvs.map (·.1)
  row : ∀ k, k = 1 ∨ k = 2 → RowAt (tups ++ g o') kv' k (stepRow C now q1 q2 ks k)
  fnd : IntsAre fs (ks.filter fun k => toReuse C now (rowOf q1 q2 k))
  tup : ∀ p ∈ tups, ∀ q ∈ news, p.1 ≠ q.1
  cls : ∀ p ∈ tups, p.2.cls = .type "tuple"
  nd : (tups.map (·.1)).Nodup
  src : ∀ k, k = 1 ∨ k = 2 → (stepRow C now q1 q2 ks k = rowOf q1 q2 k ∧ valueAt kv' k = valueAt kvs k) ∨ RowAt tups kv' k (stepRow C now q1 q2 ks k)
theorem map_stored_has {kvs : List (Int × Value)} {k : Int} {v u : Value} (h : valueAt kvs k = some u) : (stored kvs k v).map (·.1) = kvs.map (·.1) := by
  have hk : (kvs.any fun kv => decide (kv.1 = k)) = true := by
    unfold valueAt at h
    cases e : kvs.find? fun kv => decide (kv.1 = k) with
    | none => rw [e] at h; cases h
    | some q => exact List.any_eq_true.mpr ⟨q, List.mem_of_find?_eq_some e, by simpa using List.find?_some e⟩
  unfold stored
  rw [if_pos hk, List.map_map]
  refine List.map_congr_left fun q _ => ?_
  by_cases e : q.1 = k
  · simp [e]
  · simp [e]
theorem RowAt.sub {nx nx' : Led} {kvs kvs' : List (Int × Value)} {k : Int} {row : Option Row} (R : RowAt nx kvs k row) (hv : valueAt kvs' k = valueAt kvs k) (keep : ∀ p ∈ nx, p.2.cls = .type "tuple" → p ∈ nx') : RowAt nx' kvs' k row := by
  cases row with
  | none => exact hv.trans R
  | some q =>
    obtain ⟨t, t1, t2, e, hm⟩ := R
    exact ⟨t, t1, t2, hv.trans e, keep _ hm rfl⟩
theorem updF_prepend {d : Addr} {o : Obj} {l : Led} {g : Obj → Led} (U : UpdF d o l g) : ∀ {pre : Led}, (∀ p ∈ pre, p.1 ≠ d) → UpdF d o (pre ++ l) (fun z => pre ++ g z)
  | [], _ => U
  | p :: _, h => .tail (h p (.head _)) (updF_prepend U fun q hq => h q (.tail _ hq))
section
variable {w : World} {news : Led} {g : Obj → Led} {r : Addr} {orr : Obj} {kvs : List (Int × Value)} {C : Cfg} {now : Int} {q1 q2 : Option Row} {ks : List Int} {tups : Led} {o' : Obj} {kv' : List (Int × Value)} {fs : List Value}
theorem RuJ.skip {k : Int} (J : RuJ w news g r kvs C now q1 q2 ks tups o' kv' fs) (h : toReuse C now (rowOf q1 q2 k) = false) : RuJ w news g r kvs C now q1 q2 (ks ++ [k]) tups o' kv' fs := by
  have hsk : ∀ j, stepRow C now q1 q2 (ks ++ [k]) j = stepRow C now q1 q2 ks j := fun j => stepRow_keep (by
    unfold reuseR
    cases e : rowOf q1 q2 k with
    | none => rfl
    | some q => dsimp only; rw [e] at h; rw [h]; rfl)
  refine ⟨J.hd, J.keys, fun j hj => by rw [hsk]; exact J.row j hj, ?_, J.tup, J.cls, J.nd, fun j hj => by rw [hsk]; exact J.src j hj⟩
  · rw [List.filter_append]; simpa [h] using J.fnd
theorem RuJ.step {k : Int} {q : Row} {T : Addr} {o9 : Obj} {t1 t2 t8 : Tok} {u : Value} (J : RuJ w news g r kvs C now q1 q2 ks tups o' kv' fs) (U : UpdF r orr news g) (hq : rowOf q1 q2 k = some q) (h : toReuse C now (some q) = true) (hv : valueAt kv' k = some u)
    (hd : o9.IsDictOf (PySem.intKind Mine.XL.row.prog w) (stored kv' k (.ref T))) (hT : ∀ p ∈ news, p.1 ≠ T) (hT2 : ∀ p ∈ tups, p.1 ≠ T) : RuJ w news g r kvs C now q1 q2 (ks ++ [k]) ((T, tupO [.int (penR C.half (rowOf q1 q2 k) now) t1, .int now t2, .bool false]) :: tups) o9 (stored kv' k (.ref T)) (fs ++ [Value.int k t8]) := by
  have cd := dict_cls J.hd
  have keep : ∀ p ∈ tups ++ g o', p.2.cls = .type "tuple" → p ∈ ((T, tupO [.int (penR C.half (rowOf q1 q2 k) now) t1, .int now t2, .bool false]) :: tups) ++ g o9 := fun p hp hc => by
    rcases List.mem_append.mp hp with hp | hp
    · exact .tail _ (List.mem_append_left _ hp)
    · exact .tail _ (List.mem_append_right _ (updF_other (updF_again U o') hp (by rw [hc, cd]; exact fun h => absurd (Value.type.inj h) (by decide))))
  refine ⟨hd, by rw [map_stored_has hv]; exact J.keys, fun j hj => ?_, ?_, ?_, ?_, List.nodup_cons.mpr ⟨fun hm => let ⟨q, hq, e⟩ := List.mem_map.mp hm; hT2 q hq e, J.nd⟩, fun j hj => ?_⟩
  · by_cases e : j = k
    · subst e
      have e2 : stepRow C now q1 q2 (ks ++ [j]) j = some { fine := penR C.half (rowOf q1 q2 j) now, since := now, out := false } := by
        rw [stepRow_self, hq]
        unfold reuseR
        dsimp only
        rw [if_pos h]
      rw [e2]
      exact ⟨T, t1, t2, val_put, .head _⟩
    · rw [stepRow_ne e]
      exact (J.row j hj).sub (val_put_ne e) keep
  · rw [List.filter_append]
    simpa [hq, h] using IntsAre.snoc J.fnd
  · intro p hp y hy
    rcases List.mem_cons.mp hp with rfl | hp
    · exact fun e => hT y hy e.symm
    · exact J.tup p hp y hy
  · intro p hp
    rcases List.mem_cons.mp hp with rfl | hp
    · rfl
    · exact J.cls p hp
  · by_cases e : j = k
    · subst e
      have e2 : stepRow C now q1 q2 (ks ++ [j]) j = some { fine := penR C.half (rowOf q1 q2 j) now, since := now, out := false } := by
        rw [stepRow_self, hq]
        unfold reuseR
        dsimp only
        rw [if_pos h]
      rw [e2]
      exact .inr ⟨T, t1, t2, val_put, .head _⟩
    · rw [stepRow_ne e]
      exact (J.src j hj).imp (fun x => ⟨x.1, (val_put_ne e).trans x.2⟩) fun x => x.sub (val_put_ne e) fun p hp _ => .tail _ hp
theorem RuJ.dmp {nw : Led} {d dx c : Addr} {oc : Obj} {kc : List (Str × Value)} {top : Int} (J : RuJ w news g r kvs C now q1 q2 ks tups o' kv' fs) (D : DmpAt w news d dx c r oc orr kc kvs top) (U : UpdF r orr news g) (n1 : dx ≠ r) (n2 : c ≠ r) (hs : ∀ p ∈ g o', p ∈ nw) : DmpAt w nw d dx c r oc o' kc kv' top := by
  have cd := dict_cls D.hrd
  refine ⟨hs _ (updF_other U D.hd (by rw [cd]; exact fun h => nomatch h)), let ⟨x1, y1, x2, y2, x3, y3, y4, q⟩ := D.hx; ⟨x1, y1, x2, y2, x3, y3, y4, hs _ (updF_old U q n1)⟩, hs _ (updF_old U D.hc n2), D.hcd, hs _ (updF_new U o'), J.hd, D.hrs, ?_⟩
  have := congrArg List.length J.keys
  rw [List.length_map, List.length_map] at this
  have := D.hlen
  omega
end
theorem ru_end {h₀ : Heap} {L T Fo D9 : Addr} {tp oF oF' oD o' o9 : Obj} {tups own : Led} {g : Obj → Led} {J : (Str → Option Value) → Led → Prop} {m' : Str → Option Value} {s₁ : Shared} {h' : Heap} {tk : Nat} (F : Fr h₀ L h' m') (N : News h₀ L h' ((T, tp) :: (Fo, oF) :: (D9, oD) :: (tups ++ (g o9 ++ own))))
    (hoff : OwnOff own (((Fo, oF') :: (D9, oD) :: (tups ++ g o')).map (·.1))) (hT : ∀ p ∈ own, p.1 ≠ T) (hg : (g o9).map (·.1) = (g o').map (·.1)) (hJ : J m' ((Fo, oF) :: (D9, oD) :: (((T, tp) :: tups) ++ g o9))) : InvEndG h₀ L J own s₁ { s₁ with heap := h', toks := tk } := by
  refine ⟨_, _, _, _, _, rfl, F, N, ?_, ?_, ?_, hJ⟩
  · intro p hp
    rcases List.mem_cons.mp hp with rfl | hp
    · exact .tail _ (.head _)
    · rcases List.mem_cons.mp hp with rfl | hp
      · exact .tail _ (.tail _ (.head _))
      · rcases List.mem_cons.mp hp with rfl | hp
        · exact .head _
        · refine .tail _ (.tail _ (.tail _ ?_))
          exact (List.mem_append.mp hp).elim (fun h => List.mem_append_left _ h) fun h => List.mem_append_right _ (List.mem_append_left _ h)
  · exact fun p hp => .tail _ (.tail _ (.tail _ (List.mem_append_right _ (List.mem_append_right _ hp))))
  · intro p hp b hb
    have hof := hoff p hp
    simp only [List.cons_append, List.map_cons, List.map_append, hg] at hb hof
    rcases List.mem_cons.mp hb with rfl | hb
    · exact hof _ (.head _)
    · rcases List.mem_cons.mp hb with rfl | hb
      · exact hof _ (.tail _ (.head _))
      · rcases List.mem_cons.mp hb with rfl | hb
        · exact hT p hp
        · exact hof _ (.tail _ (.tail _ hb))
theorem reused_c {w : World} {mean : ExcName → Option Value} {mg mb : Str → Option Value} {news : Led} {g : Obj → Led} {d dx c r : Addr} {oc orr : Obj} {kc : List (Str × Value)} {kvs : List (Int × Value)} {top : Int} (now : Int) (C : Cfg) (q1 q2 : Option Row) (tn : Tok)
    (D : DmpAt w news d dx c r oc orr kc kvs top) (U : UpdF r orr news g) (hrow : Rows2 news kvs q1 q2) (hok1 : RowOk now q1) (hok2 : RowOk now q2) (ha : CfgAt kc C) (hC : CfgOk C) (n1 : dx ≠ r) (n2 : c ≠ r) :
    CtrL w mean mg mb 133 5 40 news [.ref d, .int now tn] (fun res news' => ∃ E vs n o' kv' tups, news' = (E, W.listOf vs.toArray n) :: (tups ++ g o') ∧ (∀ p ∈ tups ++ g o', p.1 ≠ E) ∧ res = .ref E ∧ IntsAre vs (reuseKeys C now q1 q2) ∧ RuJ w news g r kvs C now q1 q2 (keysOf q1 q2) tups o' kv' vs) := by
  (w_top off; k_with_none; (k_with "my updF" => (first | assumption | exact UpdF.tail (my_ne (by assumption) (by assumption)) (by assumption))); (k_with "my upd" => (exact updF_upd (by assumption) _)); (k_with "my mem" => (first | exact updF_new (by assumption) _ | exact updF_old (by assumption) (by assumption) (by assumption) | (refine List.mem_cons_of_mem _ ?_; k_mem) | (refine List.mem_append_right _ ?_; k_mem))); (k_with "my islist" => (exact News.isList (by k_asm) (by k_mem))); (k_with "my fact" => (first | assumption | trivial | omega | (refine ⟨?_, ?_⟩ <;> omega) | ((try dsimp only); first | assumption | omega | l_fact))); (k_with "compareOp NotIn int ref" => ((k_here; k_dflt (refine my_notin (by k_asm) (by k_mem) (by k_asm) (by k_asm) _ (by assumption) ?_); (try dsimp only [Bool.not_true, Bool.not_false])))); (k_with "compareOp In int ref" => ((k_here; k_dflt (refine my_in (by k_asm) (by k_mem) (by k_asm) (by k_asm) _ (by assumption) ?_); (try dsimp only)))); (k_with "subscriptTail" => ((k_here; k_dflt (first
  | ((with_reducible show wpAny _ _ (subscriptTail _ _ (Value.ref _) (Value.str _ _)) _ _ _); refine kda_item (knd := PySem.strKind _ _) (by k_asm) (by k_mem) (by k_asm) (strKind_is _ _ _ _) (by assumption) ?_; (try dsimp only))
  | ((with_reducible show wpAny _ _ (subscriptTail _ _ (Value.ref _) (Value.int _ _)) _ _ _); refine kda_item (knd := PySem.intKind _ _) (by k_asm) (by k_mem) (by k_asm) (intKind_is _ _ _ _) (by assumption) ?_; (try dsimp only)))))); (k_with "setItem ref int" => ((k_here; (with_reducible show wpAny _ _ (setItem (Value.ref _) (Value.int _ _) (Value.ref _)) _ _ _); k_dflt (refine kda_set (knd := PySem.intKind _ _) (by k_asm) (by k_asm) (by k_updF) (by k_asm) (intKind_is _ _ _ _) (by rw [sizeLine_eq]; omega) ?_)); intro h9 o9 F9 N9 hd9; (try dsimp only at N9); (try dsimp only))); (k_with "my sub" => (intro p9 hp9; repeat (first | exact hp9 | assumption | refine List.mem_cons_of_mem _ ?_ | refine List.mem_append_right _ ?_))); (k_with "call ref" => ((k_here; (with_reducible show wpAny _ _ (call (Value.ref 95) _) _ _ _); k_dflt (refine Ctr.cInt (by k_asm) (by k_asm) (by k_asm) (by k_asm) (by k_asm) (by first | exact rfl | assumption) (by (first | exact room3 (by assumption) (by rfl) | exact room2 (by assumption) (by rfl) | exact room1 (by assumption) | exact Nat.le_of_ble_eq_true rfl | ktr_room)) (by first | (first | exact room3 (by assumption) (by rfl) | exact room2 (by assumption) (by rfl) | exact room1 (by assumption) | exact Nat.le_of_ble_eq_true rfl | ktr_units) | exact Nat.le_of_ble_eq_true rfl | (have hcL9 := cLine_is; (try simp only [units_under_make, units_in1, units_deeper, Around.mark_units, units_caller] at *); (try dsimp only [ktrTop] at *); omega)) (penalty_c _ _ _ _ _ _ (by first | assumption | exact DmpAt.mono (by assumption) (by walk_at "my sub")) (by assumption) (by assumption) (by first | assumption | exact RowAt.mono (by assumption) (by walk_at "my sub")) (by assumption)) ?_); k_whole); intro h9 tk9 t9 F9 N9; (try dsimp only); (try k_fold))); (k_with "call ref" => ((k_here; (with_reducible show wpAny _ _ (call (Value.ref 109) _) _ _ _); k_dflt (refine Ctr.cVal (by k_asm) (by k_asm) (by k_asm) (by k_asm) (by k_asm) (by first | exact rfl | assumption) (by (first | exact room3 (by assumption) (by rfl) | exact room2 (by assumption) (by rfl) | exact room1 (by assumption) | exact Nat.le_of_ble_eq_true rfl | ktr_room)) (by first | (first | exact room3 (by assumption) (by rfl) | exact room2 (by assumption) (by rfl) | exact room1 (by assumption) | exact Nat.le_of_ble_eq_true rfl | ktr_units) | exact Nat.le_of_ble_eq_true rfl | (have hcL9 := cLine_is; (try simp only [units_under_make, units_in1, units_deeper, Around.mark_units, units_caller] at *); (try dsimp only [ktrTop] at *); omega)) (is_left_out_c _ _ _ _ _ _ _ (by first | assumption | exact DmpAt.mono (by assumption) (by walk_at "my sub")) (by assumption) (by assumption) (by assumption) (by first | assumption | exact RowAt.mono (by assumption) (by walk_at "my sub")) (by assumption)) ?_); k_whole); intro h9 tk9 F9 N9; (try dsimp only); (try k_fold))); (k_with "call builtin:sorted" => ((k_here; (with_reducible show wpAny _ _ (call (Value.builtin "sorted") [Value.ref _]) _ _ _); k_dflt (refine my_sorted (by with_unfolding_all rfl) (by k_asm) (by k_asm) (by k_mem) (by k_asm) (by k_asm) (by exact Rows2.len (by assumption)) (by exact Rows2.ks (by assumption)) (by exact keysOf_sorted _ _) ?_); k_whole); intro D9 v9 c9 h9 tk9 F9 N9 lt9 hI9; (try dsimp only))); (k_with "exec For Name Call cons nil" => ((k_here; (rename Fr _ _ _ _ => lF9); (with_unfolding_all refine For_invVF lF9 (by exact rfl) (by exact rfl) ?_); k_whole))); (k_with "pyIter ref" => (refine Stop.mk ?_)); (k_with "getMethod ref" => ((k_here; (with_reducible show wpAny _ _ (getMethod (Value.ref _) (PySem.Str.ofString "append") _) _ _ _); k_dflt (refine listMethod_K (by k_asm) (by k_mem) PySem.F.slot_list_append PySem.F.type_list_append ?_)))); (k_with "call builtin:list.append" => ((k_here; (with_reducible show wpAny _ _ (call (Value.builtin _) [Value.ref _, _]) _ _ _); k_dflt (refine append_K (by k_asm) (by k_asm) (by exact updF_upd (UpdF.tail (my_ne (by assumption) (by assumption)) (UpdF.head (hFo _))) _) ?_ (by assumption)); k_whole); intro h9 F9 N9; (try dsimp only at N9); (try dsimp only))))
  have D9 := D
  obtain ⟨hD, hX, hC', hCd, hR, hRd, hRs, hLen⟩ := D9
  refine ex7_1 (hX) fun x1 y1 x2 y2 x3 y3 y4 hX => ?_
  have a1 := ha.half
  have a3 := ha.reuse
  have o1 : 1 ≤ C.half ∧ C.half ≤ 5 := ⟨by have := hC.half; omega, hC.half.2⟩
  (unfold CtrL Ctr; k_fill; intro dp un gd cn cs a ccd cl outer A₀ base h₀ L m s0 Q E B F X N T hk hd hu hret; refine wpAny_call ?_; k_dflt ktr_enter; refine e_never ?_)
  k_steps
  refine Stop.go ?_
  rename_i tk8 Fo h8a ltF h8b N8a
  have hJ0 : RuJ w news g r kvs C now q1 q2 [] [] orr kvs [] := ⟨hRd, rfl, fun k hk => by rw [List.nil_append, updF_self U]; show RowAt news kvs k (stepRow C now q1 q2 [] k); unfold stepRow; rw [if_neg (by simp)]; exact hrow.at hk, .nil, (fun _ h => nomatch h), (fun _ h => nomatch h), List.nodup_nil, fun k _ => .inl ⟨by unfold stepRow; rw [if_neg (by simp)], rfl⟩⟩
  refine kdl_iter (l := D9) (vs := v9) (nn := c9) (news := (Fo, W.listOf ([] : List Value).toArray 0) :: (D9, W.listOf v9.toArray c9) :: ([] ++ g orr)) (fun i m nx => (m (Str.ofString "self") = some (.ref d) ∧ m (Str.ofString "now") = some (.int now tn) ∧ m (Str.ofString "found") = some (.ref Fo)) ∧ ∃ o' kv' tups fs nf, nx = (Fo, W.listOf fs.toArray nf) :: (D9, W.listOf v9.toArray c9) :: (tups ++ g o') ∧ (∀ p ∈ tups, p.1 ≠ Fo ∧ p.1 ≠ D9) ∧ RuJ w news g r kvs C now q1 q2 ((keysOf q1 q2).take i) tups o' kv' fs) rfl (.tail _ (.head _)) F9 ?_ ⟨⟨rfl, rfl, rfl⟩, orr, kvs, [], [], 0, rfl, (fun _ h => nomatch h), hJ0⟩ ?_ ?_
  · rw [List.nil_append, updF_self U]
    intro p hp
    rcases List.mem_cons.mp hp with rfl | hp
    · exact N9 _ (.tail _ (.head _))
    · rcases List.mem_cons.mp hp with rfl | hp
      · exact N9 _ (.head _)
      · exact N9 _ (.tail _ (.tail _ hp))
  · clear lF9 N9 F9 N8a hJ0
    intro i v m₁ nx1 h1 tk1 own hv hoff hmem hJ
    refine ex0_2 hJ fun hm hJ2 => ?_
    refine ex5_3 hJ2 fun o' kv' tups fs nf e7 htu J => ?_
    clear hJ hJ2; subst e7
    have hm1 := hm.1; have hm2 := hm.2.1; have hm3 := hm.2.2; clear hm
    intro F1 N1
    refine ex2_2 (IntsAre.item hI9 hv) fun k t8 hk e7 => ?_; subst e7
    obtain ⟨hk12, q, hq⟩ := keysOf_item hk
    have e8 := take_next hk
    have hok8 := rowOf_ok (k := k) hok1 hok2
    have hadr : ∀ z, (g z).map (·.1) = news.map (·.1) := updF_map U
    have hFo : ∀ z, ∀ p ∈ ((D9, W.listOf v9.toArray c9) :: (tups ++ (g z ++ own)) : Led), p.1 ≠ Fo := by
      intro z p hp
      rcases List.mem_cons.mp hp with rfl | hp
      · exact Nat.ne_of_gt (lt9 _ (.head _))
      · rcases List.mem_append.mp hp with hp | hp
        · exact (htu p hp).1
        · rcases List.mem_append.mp hp with hp | hp
          · obtain ⟨y, hy, e⟩ := updF_addr U hp
            rw [← e]; exact Nat.ne_of_lt (ltF y hy)
          · exact hoff p hp Fo (.head _)
    have U1 : UpdF r o' ((Fo, W.listOf fs.toArray nf) :: (D9, W.listOf v9.toArray c9) :: (tups ++ (g o' ++ own))) (fun z => (Fo, W.listOf fs.toArray nf) :: (D9, W.listOf v9.toArray c9) :: (tups ++ (g z ++ own))) :=
      .tail (Nat.ne_of_gt (ltF _ hR)) (.tail (Nat.ne_of_gt (lt9 _ (.tail _ hR))) (updF_prepend (updF_append (updF_again U o') fun p hp => hoff p hp r (.tail _ (.tail _ (by rw [List.map_append, hadr]; exact List.mem_append_right _ (List.mem_map.mpr ⟨_, hR, rfl⟩))))) fun p hp => J.tup p hp _ hR))
    have hs1 : ∀ p ∈ tups ++ g o', p ∈ ((Fo, W.listOf fs.toArray nf) :: (D9, W.listOf v9.toArray c9) :: (tups ++ (g o' ++ own)) : Led) := fun p hp => .tail _ (.tail _ ((List.mem_append.mp hp).elim (fun h => List.mem_append_left _ h) fun h => List.mem_append_right _ (List.mem_append_left _ h)))
    have ho1 : ∀ p ∈ own, p ∈ ((Fo, W.listOf fs.toArray nf) :: (D9, W.listOf v9.toArray c9) :: (tups ++ (g o' ++ own)) : Led) := fun p hp => .tail _ (.tail _ (List.mem_append_right _ (List.mem_append_right _ hp)))
    have hs2 : ∀ p ∈ ((Fo, W.listOf fs.toArray nf) :: (D9, W.listOf v9.toArray c9) :: (tups ++ g o') : Led), p ∈ ((Fo, W.listOf fs.toArray nf) :: (D9, W.listOf v9.toArray c9) :: (tups ++ (g o' ++ own)) : Led) := fun p hp => by
      rcases List.mem_cons.mp hp with rfl | hp
      · exact .head _
      · rcases List.mem_cons.mp hp with rfl | hp
        · exact .tail _ (.head _)
        · exact hs1 p hp
    have D8 : DmpAt w ((Fo, W.listOf fs.toArray nf) :: (D9, W.listOf v9.toArray c9) :: (tups ++ (g o' ++ own))) d dx c r oc o' kc kv' top := J.dmp D U n1 n2 fun p hp => hs1 p (List.mem_append_right _ hp)
    have R8 := (J.row k hk12).mono hs1
    have hnt : stepRow C now q1 q2 ((keysOf q1 q2).take i) k = rowOf q1 q2 k := by unfold stepRow; rw [if_neg (notin_take (keysOf_nodup q1 q2) hk)]
    rw [hnt] at R8
    have mF : (Fo, W.listOf fs.toArray nf) ∈ ((Fo, W.listOf fs.toArray nf) :: (D9, W.listOf v9.toArray c9) :: (tups ++ (g o' ++ own)) : Led) := .head _
    have hsz : fs.toArray.size ≤ sizeLine := by
      rw [List.size_toArray, IntsAre.size J.fnd]
      exact Nat.le_trans (Nat.le_trans (List.length_filter_le _ _) (Nat.le_trans (List.length_take_le' _ _) (keysOf_len q1 q2))) (by rw [sizeLine_eq]; omega)
    simp only [List.cons_append, List.append_assoc] at N1
    generalize hnw : ((Fo, W.listOf fs.toArray nf) :: (D9, W.listOf v9.toArray c9) :: (tups ++ (g o' ++ own)) : Led) = nw at U1 hs1 hs2 ho1 D8 R8 mF N1
    have h3 := D8.hd
    refine ex7_1 (D8.hx) fun x11 y11 x12 y12 x13 y13 y14 h4 => ?_
    have h5 := D8.hr
    have h6 := D8.hrd
    have h7 := D8.hlen
    have R9 := R8
    rw [hq] at R9
    refine ex3_2 (R9) fun t u1 u2 hv0 hT => ?_; clear R9
    rw [map_in hm3, map_in hm2, map_in hm1] at F1
    (try dsimp only)
    k_steps
    · (rename Fr _ _ _ _ => fF)
      (rename News _ _ _ _ => fN)
      refine ⟨_, _, _, _, (Fo, W.listOf fs.toArray nf) :: (D9, W.listOf v9.toArray c9) :: (tups ++ g o'), rfl, fF, fN, hs2, ho1, hoff, .tail _ (.head _), ⟨rfl, rfl, rfl⟩, o', kv', tups, fs, nf, rfl, htu, ?_⟩
      rw [e8]
      exact J.skip (by rw [hq]; simp_all [toReuse, isOut])
    · (rename Fr _ _ _ _ => fF)
      (rename News _ _ _ _ => fN)
      (rename ∀ p, p ∈ nw → p.1 < _ => ltT)
      (try simp only [List.push_toArray] at fN)
      have hTn : ∀ p ∈ news, p.1 ≠ _ := fun p hp => by
        obtain ⟨y, hy, e⟩ := List.mem_map.mp (show p.1 ∈ (g o').map (·.1) by rw [updF_map U]; exact List.mem_map.mpr ⟨p, hp, rfl⟩)
        rw [← e]
        exact Nat.ne_of_lt (ltT y (hs1 y (List.mem_append_right _ hy)))
      refine ru_end fF fN hoff (fun p hp => Nat.ne_of_lt (ltT p (ho1 p hp))) (by rw [updF_map U, updF_map U]) ⟨.tail _ (.head _), ⟨rfl, rfl, rfl⟩, o9, ?kv9, _ :: tups, fs ++ [Value.int k t8], nf + 1, rfl, ?_, ?_⟩
      rotate_left
      · intro p hp
        rcases List.mem_cons.mp hp with rfl | hp
        · exact ⟨Nat.ne_of_gt (ltT _ mF), Nat.ne_of_gt (ltT _ (hs2 _ (.tail _ (.head _))))⟩
        · exact htu p hp
      · rw [e8]
        exact J.step U hq (by simp_all [toReuse, isOut]) hv0 (by assumption) hTn (fun p hp => Nat.ne_of_lt (ltT p (hs1 p (List.mem_append_left _ hp))))
    · (rename Fr _ _ _ _ => fF)
      (rename News _ _ _ _ => fN)
      refine ⟨_, _, _, _, (Fo, W.listOf fs.toArray nf) :: (D9, W.listOf v9.toArray c9) :: (tups ++ g o'), rfl, fF, fN, hs2, ho1, hoff, .tail _ (.head _), ⟨rfl, rfl, rfl⟩, o', kv', tups, fs, nf, rfl, htu, ?_⟩
      rw [e8]
      exact J.skip (by rw [hq]; simp_all [toReuse, isOut])
  · clear lF9 N9 F9 N8a hJ0
    intro m₁ nx1 h1 tk1 hJ
    refine ex0_2 hJ fun hm hJ2 => ?_
    refine ex5_3 hJ2 fun o' kv' tups fs nf e7 htu J => ?_
    clear hJ hJ2; subst e7
    have hm1 := hm.1; have hm2 := hm.2.1; have hm3 := hm.2.2; clear hm
    intro F1 N1
    rw [IntsAre.size hI9, List.take_length] at J
    rw [map_in hm3] at F1
    (try dsimp only)
    k_steps
    (rename Fr _ _ _ _ => fF)
    (rename News _ _ _ _ => fN)
    refine hret _ ((Fo, W.listOf fs.toArray nf) :: (tups ++ g o')) _ _ fF (cb_drop fN ?_) ⟨Fo, fs, nf, o', kv', tups, rfl, ?_, rfl, J.fnd, J⟩
    · intro p hp
      rcases List.mem_cons.mp hp with rfl | hp
      · exact .head _
      · exact .tail _ (.tail _ hp)
    · intro p hp
      rcases List.mem_append.mp hp with hp | hp
      · exact (htu p hp).1
      · obtain ⟨y, hy, e⟩ := updF_addr U hp
        rw [← e]; exact Nat.ne_of_lt (ltF y hy)
section
variable {prog : Program} {w : World} {A : Around} {E : Value → Shared → Prop} {R : Result → Shared → Prop} {s : Shared}
noncomputable abbrev LC2 (elt : PySem.Expr) (x : Str) (px : Pos) (iter₁ : PySem.Expr) (elts : List PySem.Expr) (kk : Nat) (tp : Pos) (iter₂ : PySem.Expr) (scope : Scope) (pos : Pos) : PySem.Expr :=
  .ListComp elt [⟨.Name x px, iter₁, [], 0⟩, ⟨.Tuple elts kk tp, iter₂, [], 0⟩] scope pos
theorem turn_in (elt : PySem.Expr) (x : Str) (px : Pos) (iter₁ : PySem.Expr) (elts : List PySem.Expr) (kk : Nat) (tp : Pos) (iter₂ : PySem.Expr) (scope : Scope) (pos : Pos) (it acc : Value) (env : Env) :
    compTurn (LC2 elt x px iter₁ elts kk tp iter₂ scope pos) 1 it acc env = (do
      standAt iter₂.pos
      match ← pyNext it with
      | none => pure (.done .next)
      | some v =>
        letOwnedTupleGo (.Tuple elts kk tp) it v
        assign (.Tuple elts kk tp) env v
        (do let _ ← call (.builtin "list.append") [acc, ← eval elt env])
        again (.compLoop (LC2 elt x px iter₁ elts kk tp iter₂ scope pos) 1 it acc env)) := by rfl
theorem turn_out (elt : PySem.Expr) (x : Str) (px : Pos) (iter₁ : PySem.Expr) (elts : List PySem.Expr) (kk : Nat) (tp : Pos) (iter₂ : PySem.Expr) (scope : Scope) (pos : Pos) (it acc : Value) (env : Env) :
    compTurn (LC2 elt x px iter₁ elts kk tp iter₂ scope pos) 0 it acc env = (do
      standAt iter₁.pos
      match ← pyNext it with
      | none => pure (.done .next)
      | some v =>
        assign (.Name x px) env v
        let y ← eval iter₂ env
        standAt iter₂.pos
        let y ← foldedSetIterable iter₂ env y
        let _ ← runOwn (.compStart (LC2 elt x px iter₁ elts kk tp iter₂ scope pos) 1 (← holding [y] (pyIter y)) acc env) env
        again (.compLoop (LC2 elt x px iter₁ elts kk tp iter₂ scope pos) 0 it acc env)) := by rfl
theorem start_in {elt : PySem.Expr} {x : Str} {px : Pos} {iter₁ : PySem.Expr} {elts : List PySem.Expr} {kk : Nat} {tp : Pos} {iter₂ : PySem.Expr} {scope : Scope} {pos : Pos} {it acc : Value} {env : Env}
    (h0 : codeAny (model prog w) A (.compLoop (LC2 elt x px iter₁ elts kk tp iter₂ scope pos) 1 it acc env) R s)
    (h : wpAny (model prog w) A (pyIter it) (fun it' s' => codeAny (model prog w) A (.compLoop (LC2 elt x px iter₁ elts kk tp iter₂ scope pos) 1 it' acc env) R s') (notedBy (model prog w) A env fun x s' => R (.error x) s') s) :
    codeAny (model prog w) A (.compStart (LC2 elt x px iter₁ elts kk tp iter₂ scope pos) 1 it acc env) R s := by
  refine codeAny_of_tree ?_
  show wpAny _ _ ((compStart (LC2 elt x px iter₁ elts kk tp iter₂ scope pos) 1 it acc env).onRaise (fun x => do noteFrame x env; standAt theWindowsPlace)) _ _ s
  refine wpAny_notedAt ?_
  unfold compStart
  show wpAny _ _ (ask >>= _) _ _ s
  refine wpAny_bind (wpAny_askSetting (wpAny_ite ?_))
  split
  · first
      | exact wpAny_bind (wpAny_pure (wpAny_pure (And.intro rfl h0)))
      | exact wpAny_pure (And.intro rfl h0)
  · first
      | exact wpAny_bind (wpAny_rule (wpAny_bind (wpAny_standAt (wpAny_bind (wpAny_mono h (fun it' s' h' => wpAny_pure (And.intro rfl h')) fun _ _ x => x)))))
      | (refine wpAny_bind (wpAny_rule ?_); show wpAny _ _ (standAt iter₂.pos >>= _) _ _ s; exact wpAny_bind (wpAny_standAt (wpAny_bind (wpAny_mono h (fun it' s' h' => wpAny_pure (And.intro rfl h')) fun _ _ x => x))))
theorem loop_in {elt : PySem.Expr} {x : Str} {px : Pos} {iter₁ : PySem.Expr} {elts : List PySem.Expr} {kk : Nat} {tp : Pos} {iter₂ : PySem.Expr} {scope : Scope} {pos : Pos} {it acc : Value} {env : Env} (I : Nat → Shared → Prop)
    (turn : ∀ n s, I n s → wpAny (model prog w) A (pyNext it) (fun r s₁ => match r with
      | none => R (.ok .next) s₁
      | some v => wpAny (model prog w) A (letOwnedTupleGo (.Tuple elts kk tp) it v) (fun _ s₁' => wpAny (model prog w) A (assign (.Tuple elts kk tp) env v) (fun _ s₂ =>
          wpAny (model prog w) A (eval elt env) (fun x s₄ =>
              wpAny (model prog w) A (call (.builtin "list.append") [acc, x]) (fun _ s₅ => ∃ m, m < n ∧ I m s₅) (notedBy (model prog w) A env fun e s' => R (.error e) s') s₄) (notedBy (model prog w) A env fun e s' => R (.error e) s') s₂)
          (notedBy (model prog w) A env fun e s' => R (.error e) s') s₁') (notedBy (model prog w) A env fun e s' => R (.error e) s') s₁) (notedBy (model prog w) A env fun e s' => R (.error e) s') s)
    (n : Nat) (h : I n s) : codeAny (model prog w) A (.compLoop (LC2 elt x px iter₁ elts kk tp iter₂ scope pos) 1 it acc env) R s := by
  refine codeAny_loop rfl I (fun n s hI => ?_) n h
  show wpAny _ A ((compTurn (LC2 elt x px iter₁ elts kk tp iter₂ scope pos) 1 it acc env).onRaise (fun x => do noteFrame x env; theTreesLotGoes x)) _ _ s
  refine wpAny_noted ?_
  rw [turn_in]
  refine wpAny_bind (wpAny_standAt (wpAny_bind (wpAny_mono (turn n s hI) (fun r s₁ h₁ => ?_) fun _ _ h' => h')))
  cases r with
  | none => exact wpAny_pure h₁
  | some v =>
    refine wpAny_bind (wpAny_mono h₁ (fun _ s₁' h₁' => ?_) fun _ _ h' => h')
    refine wpAny_bind (wpAny_mono h₁' (fun _ s₂ h₂ => ?_) fun _ _ h' => h')
    exact wpAny_bind (wpAny_bind (wpAny_mono h₂ (fun x s₄ h₄ => wpAny_bind (wpAny_mono h₄ (fun _ s₅ h₅ => wpAny_pure (wpAny_pure ⟨rfl, h₅⟩)) fun _ _ h' => h')) fun _ _ h' => h'))
theorem loop_out {elt : PySem.Expr} {x : Str} {px : Pos} {iter₁ : PySem.Expr} {elts : List PySem.Expr} {kk : Nat} {tp : Pos} {iter₂ : PySem.Expr} {scope : Scope} {pos : Pos} {it acc : Value} {env : Env} (I : Nat → Shared → Prop)
    (hs : ∀ x, foldedSetIterable iter₂ env x = pure x)
    (turn : ∀ n s, I n s → wpAny (model prog w) A (pyNext it) (fun r s₁ => match r with
      | none => R (.ok .next) s₁
      | some v => wpAny (model prog w) A (assign (.Name x px) env v) (fun _ s₂ =>
          wpAny (model prog w) A (eval iter₂ env) (fun y s₃ => wpAny (model prog w) A (pyIter y) (fun it₂ s₄ =>
              codeAny (model prog w) A (.compStart (LC2 elt x px iter₁ elts kk tp iter₂ scope pos) 1 it₂ acc env) (fun r s₅ => match r with | .ok _ => ∃ m, m < n ∧ I m s₅ | .error _ => False) s₄)
            (notedBy (model prog w) A env fun e s' => R (.error e) s') s₃) (notedBy (model prog w) A env fun e s' => R (.error e) s') s₂)
          (notedBy (model prog w) A env fun e s' => R (.error e) s') s₁) (notedBy (model prog w) A env fun e s' => R (.error e) s') s)
    (n : Nat) (h : I n s) : codeAny (model prog w) A (.compLoop (LC2 elt x px iter₁ elts kk tp iter₂ scope pos) 0 it acc env) R s := by
  refine codeAny_loop rfl I (fun n s hI => ?_) n h
  show wpAny _ A ((compTurn (LC2 elt x px iter₁ elts kk tp iter₂ scope pos) 0 it acc env).onRaise (fun x => do noteFrame x env; theTreesLotGoes x)) _ _ s
  refine wpAny_noted ?_
  rw [turn_out]
  refine wpAny_bind (wpAny_standAt (wpAny_bind (wpAny_mono (turn n s hI) (fun r s₁ h₁ => ?_) fun _ _ h' => h')))
  cases r with
  | none => exact wpAny_pure h₁
  | some v =>
    refine wpAny_bind (wpAny_mono h₁ (fun _ s₂ h₂ => ?_) fun _ _ h' => h')
    refine wpAny_bind (wpAny_mono h₂ (fun y s₃ h₃ => ?_) fun _ _ h' => h')
    refine wpAny_bind (wpAny_standAt (wpAny_bind (wpAny_of_eq (hs y) ?_)))
    refine wpAny_bind (wpAny_holding (wpAny_mono h₃ (fun it₂ s₄ h₄ => ?_) fun _ _ h' => h'))
    refine wpAny_bind (wpAny_runOwn (codeAny_mono h₄ fun r s₅ q => ?_))
    cases r with
    | ok f => exact wpAny_pure ⟨rfl, q⟩
    | error e => exact q.elim
end
section
variable {prog : Program} {w : World} {A : Around} {E : Value → Shared → Prop} {R : Result → Shared → Prop} {s : Shared} {h₀ : Heap} {L : Addr} {m : Str → Option Value} {env : Env}
variable {elt : PySem.Expr} {x a b : Str} {px pa pb tp : Pos} {iter₁ iter₂ : PySem.Expr} {kk : Nat} {scope : Scope} {cl : List (Str × Addr)} {pos : Pos}
noncomputable def In2End (h₀ : Heap) (L : Addr) (m : Str → Option Value) (s₁ : Shared) (I₂ : Addr) (oI₂ : Obj) (I : Addr) (oI : Obj) (C : Addr) (oC : Obj) (D : Addr) (oD : Obj) (K : Value → Led → Prop) (y : Value) (s₂ : Shared) : Prop :=
  ∃ h' tk nx', s₂ = { s₁ with heap := h', toks := tk } ∧ Fr h₀ L h' m ∧ News h₀ L h' ((I₂, oI₂) :: (I, oI) :: (C, oC) :: (D, oD) :: nx') ∧ LCg.Off3 I C D nx' ∧ (∀ p ∈ nx', p.1 ≠ I₂) ∧ K y nx'
/-- the inner loop of a comprehension of two clauses -/
theorem comp2_in {I C D ax : Addr} {oI : Obj} {its : List Value} {n₂ : Nat} {ys₀ : List Value} {nx₀ : Led} {m₀ : Str → Option Value} (K : Nat → List Value → Led → Prop) (hh : A.handled = none)
    (hkind : scope.kind = .function) (hxa : scope.names.lookup a = some .local) (hxb : scope.names.lookup b = some .local) (hab : a ≠ b)
    (F : Fr h₀ L s.heap m) (hn : s.heap.Ns C m₀) (N : News h₀ L s.heap ((I, oI) :: (D, LCg.lst ys₀) :: nx₀)) (off : LCg.Off3 I C D nx₀) (hIC : I ≠ C) (hID : I ≠ D) (hCD : C ≠ D) (hCL : C ≠ L) (hC₀ : h₀.get? C = none)
    (hm : ∀ j ys nx, K j ys nx → (ax, W.listOf its.toArray n₂) ∈ nx) (hlen : ∀ j ys nx, K j ys nx → ys.length ≤ sizeLine) (hk : K 0 ys₀ nx₀)
    (turn : ∀ j ys nx v, its[j]? = some v → K j ys nx → ∃ (t : Addr) (ot : Obj) (v₁ v₂ : Value) (nt : Nat), v = .ref t ∧ (t, ot) ∈ nx ∧ ot.cls = .type "tuple" ∧ ot.data = .seq #[v₁, v₂] nt ∧
      ∀ I₂ oI₂ oC m₂ h tk (E' : Value → Shared → Prop), LCg.NsObj oC m₂ → m₂ a = some v₁ → m₂ b = some v₂ → Fr h₀ L h m → News h₀ L h ((I₂, oI₂) :: (I, oI) :: (C, oC) :: (D, LCg.lst ys) :: nx) → LCg.Off3 I C D nx → (∀ p ∈ nx, p.1 ≠ I₂) →
        wpAny (model prog w) A (eval elt (compEnvC scope cl C env)) (In2End h₀ L m { s with heap := h, toks := tk } I₂ oI₂ I oI C oC D (LCg.lst ys) (fun y nx' => K (j + 1) (ys ++ [y]) nx')) E' { s with heap := h, toks := tk })
    (hR : ∀ h tk m' ys nx, Fr h₀ L h m → h.Ns C m' → News h₀ L h ((I, oI) :: (D, LCg.lst ys) :: nx) → LCg.Off3 I C D nx → K its.length ys nx → R (.ok .next) { s with heap := h, toks := tk }) :
    wpAny (model prog w) A (pyIter (.ref ax)) (fun it s₄ => codeAny (model prog w) A (.compStart (LC2 elt x px iter₁ [.Name a pa, .Name b pb] kk tp iter₂ scope pos) 1 it (.ref D) (compEnvC scope cl C env)) R s₄) E s := by
  have hax : s.heap.get? ax = some (W.listOf its.toArray n₂) := (N _ (.tail _ (.tail _ (hm _ _ _ hk)))).1
  have hl : s.heap.IsList ax its.toArray := ⟨_, hax, rfl, n₂, rfl⟩
  refine wpAny_pyIter_list hl ?_
  have up : ∀ b o, s.heap.get? b = some o → (s.heap.push { cls := .type "list_iterator", data := .fields #[.ref ax, .int 0 0] }).get? b = some o := fun b o e => Heap.get?_push_of_some _ e
  have hsz : its.toArray.size = its.length := by simp
  have W := Walks.list (prog := prog) (w := w) (A := A) hh s.heap.objs.size ax (Nat.ne_of_lt (Heap.lt_size hax)) its.toArray
  rw [hsz] at W
  have hLI : L ≠ s.heap.objs.size := Nat.ne_of_lt F.ns.lt
  have hI₀ : h₀.get? s.heap.objs.size = none := next_is_new F
  have hCI : C ≠ s.heap.objs.size := Nat.ne_of_lt hn.lt
  have low : ∀ p ∈ (I, oI) :: (D, LCg.lst ys₀) :: nx₀, p.1 ≠ s.heap.objs.size := fun p hp => Nat.ne_of_lt (Heap.lt_size (N p hp).1)
  have hII : I ≠ s.heap.objs.size := low _ (.head _)
  have hDI : D ≠ s.heap.objs.size := low _ (.tail _ (.head _))
  have hDL : D ≠ L := (N _ (.tail _ (.head _))).2.1
  have hD₀ : h₀.get? D = none := (N _ (.tail _ (.head _))).2.2
  have hIL : I ≠ L := (N _ (.head _)).2.1
  generalize hs4 : s.heap.objs.size = I₂ at *
  have loop : codeAny (model prog w) A (.compLoop (LC2 elt x px iter₁ [.Name a pa, .Name b pb] kk tp iter₂ scope pos) 1 (.ref I₂) (.ref D) (compEnvC scope cl C env)) R { s with heap := s.heap.push { cls := .type "list_iterator", data := .fields #[.ref ax, .int 0 0] } } := by
    refine loop_in (fun k s' => ∃ h' tk j ys m' nx, s' = { s with heap := h', toks := tk } ∧ j ≤ its.length ∧ k = its.length + 1 - j ∧ h'.IsListIter I₂ ax j ∧ Fr h₀ L h' m ∧ h'.Ns C m' ∧ News h₀ L h' ((I, oI) :: (D, LCg.lst ys) :: nx) ∧
      LCg.Off3 I C D nx ∧ (∀ p ∈ nx, p.1 ≠ I₂) ∧ K j ys nx) ?_ (its.length + 1)
      ⟨_, _, 0, ys₀, m₀, nx₀, rfl, Nat.zero_le _, rfl, ⟨_, by rw [← hs4]; exact Heap.get?_push_size _ rfl, rfl, rfl⟩, F.keeps up, hn.at' (fun o e => up _ o e), N.grown up, off, fun p hp => low p (.tail _ (.tail _ hp)), hk⟩
    intro k s' hI
    refine ex6_10 hI fun h' tk j ys m' nx e7 hj e8 hit F' hn' N' off' off2 K' => ?_
    clear hI; subst e7; subst e8
    have hls : h'.IsList ax its.toArray := ⟨_, (N' _ (.tail _ (.tail _ (hm _ _ _ K')))).1, rfl, n₂, rfl⟩
    have off3 := off'.mem
    have offI : ∀ p ∈ (I, oI) :: (D, LCg.lst ys) :: nx, p.1 ≠ I₂ := fun p hp => by
      rcases List.mem_cons.mp hp with rfl | hp
      · exact hII
      · rcases List.mem_cons.mp hp with rfl | hp
        · exact hDI
        · exact off2 p hp
    by_cases hlt : j < its.length
    · refine W.item j _ _ _ hlt ⟨hit, hls⟩ fun v h₂ tk₂ hPv hst₂ hk₂ => ?_
      refine ex5_5 (turn j ys nx v (by simpa using hPv) K') fun t ot v₁ v₂ nt e7 hmt hct hdt T => ?_
      subst e7
      have N₂ : News h₀ L h₂ ((I, oI) :: (D, LCg.lst ys) :: nx) := LCg.news_but N' hk₂ offI
      have ht : IsTup h₂ t #[v₁, v₂] := ⟨ot, (N₂ _ (.tail _ (.tail _ hmt))).1, hct, nt, hdt⟩
      refine wpAny_letOwnedTupleGo_listiter hst₂.1 ?_
      refine assign_Tuple_tuple hh ht rfl rfl fun h₅ he => ?_
      have he' : ∀ b o, h₂.get? b = some o → h₅.get? b = some o := fun b o e => he b o (Nat.ne_of_lt (Heap.lt_size e)) e
      refine assignInOrder_cons (wpAny_assign_Name (wpAny_storeName_local (lookup_relabel_local hxa) ((hn'.at' fun o e => hk₂ _ o (by simpa using hCI) e).at' fun o e => he' _ o e) (fun h₆ hn₆ hs₆ => ?_) (by simp [compEnvC, relabel, hkind])))
      refine assignInOrder_cons (wpAny_assign_Name (wpAny_storeName_local (lookup_relabel_local hxb) hn₆ (fun h₃ hn₃ hs₃ => ?_) (by simp [compEnvC, relabel, hkind])))
      refine assignInOrder_nil ?_
      have old3 : ∀ b o, b ≠ C → h₂.get? b = some o → h₃.get? b = some o := fun b o hb e => hs₃.extBut b o hb (hs₆.extBut b o hb (he' b o e))
      have hit₃ : h₃.IsListIter I₂ ax (j + 1) := by
        obtain ⟨o, e, r⟩ := hst₂.1
        exact ⟨o, old3 _ _ (Ne.symm hCI) e, r⟩
      have hoE : ∃ oI₂ : Obj, h₃.get? I₂ = some oI₂ ∧ ∀ h : Heap, h.get? I₂ = some oI₂ → h.IsListIter I₂ ax (j + 1) := by
        obtain ⟨o, e, r⟩ := hit₃
        exact ⟨o, e, fun h e' => ⟨o, e', r⟩⟩
      refine ex1_2 hoE fun oI₂ heI hoI => ?_
      refine ex1_2 (LCg.ns_obj hn₃) fun oC heC hoC => ?_
      have F₃ : Fr h₀ L h₃ m := (((LCg.fr_but F' hk₂ hLI hI₀).keeps he').change hs₆ hCL hC₀).change hs₃ hCL hC₀
      have N₃ : News h₀ L h₃ ((I₂, oI₂) :: (I, oI) :: (C, oC) :: (D, LCg.lst ys) :: nx) := fun p hp => by
        rcases List.mem_cons.mp hp with rfl | hp
        · exact ⟨heI, Ne.symm hLI, hI₀⟩
        · rcases List.mem_cons.mp hp with rfl | hp
          · have z := N₂ _ (.head _)
            exact ⟨old3 _ _ hIC z.1, z.2⟩
          · rcases List.mem_cons.mp hp with rfl | hp
            · exact ⟨heC, hCL, hC₀⟩
            · have z := N₂ p (.tail _ hp)
              refine ⟨old3 _ _ ?_ z.1, z.2⟩
              rcases List.mem_cons.mp hp with rfl | hp
              · exact Ne.symm hCD
              · exact (off3 p hp).2.1
      refine wpAny_mono (T I₂ oI₂ oC _ h₃ _ _ hoC (by simp [hab]) (by simp) F₃ N₃ off' off2) (fun y s₄ h₄ => ?_) fun _ _ e => e
      refine ex3_6 h₄ fun h₄' tk₄ nx₄ e7 F₄ N₄ off₄ offI₄ K₄ => ?_
      subst e7
      have zC := (N₄ (C, oC) (.tail _ (.tail _ (.head _)))).1
      have zD := (N₄ (D, LCg.lst ys) (.tail _ (.tail _ (.tail _ (.head _))))).1
      refine append_at (hsz := by show ys.toArray.size ≤ sizeLine; rw [List.size_toArray]; exact hlen _ _ _ K') zD fun h₅ hs₅ hD₅ => ?_
      have off4 := off₄.mem
      refine ⟨its.length + 1 - (j + 1), by omega, h₅, tk₄, j + 1, ys ++ [y], _, nx₄, rfl, hlt, rfl, hoI h₅ (hs₅.extBut _ _ (Ne.symm hDI) (N₄ _ (.head _)).1), F₄.change hs₅ hDL hD₀, (hoC.ns zC).sameBut hs₅ hCD, fun p hp => ?_, off₄, offI₄, K₄⟩
      rcases List.mem_cons.mp hp with rfl | hp
      · have z := N₄ _ (.tail _ (.head _))
        exact ⟨hs₅.extBut _ _ hID z.1, z.2⟩
      · rcases List.mem_cons.mp hp with rfl | hp
        · exact ⟨hD₅.trans (congrArg some (LCg.lst_snoc ys y)), hDL, hD₀⟩
        · have z := N₄ p (.tail _ (.tail _ (.tail _ (.tail _ hp))))
          exact ⟨hs₅.extBut _ _ (off4 p hp).2.2 z.1, z.2⟩
    · obtain rfl : j = its.length := Nat.le_antisymm hj (Nat.not_lt.mp hlt)
      refine W.done _ _ _ ⟨hit, hls⟩ fun h₂ tk₂ hk₂ => ?_
      exact hR h₂ tk₂ _ ys nx (LCg.fr_but F' hk₂ hLI hI₀) (hn'.at' fun o e => hk₂ _ o (by simpa using hCI) e) (LCg.news_but N' hk₂ offI) off' K'
  refine start_in loop (W.self 0 _ _ _ ⟨⟨_, by rw [← hs4]; exact Heap.get?_push_size _ rfl, rfl, rfl⟩, hl.at fun o e => up _ o e⟩ loop)
end
section
variable {prog : Program} {w : World} {A : Around} {E : Value → Shared → Prop} {s : Shared} {h₀ : Heap} {L : Addr} {m : Str → Option Value} {env : Env}
noncomputable def In2Turn (prog : Program) (w : World) (A : Around) (h₀ : Heap) (L : Addr) (m : Str → Option Value) (env : Env) (elt : PySem.Expr) (a b : Str) (scope : Scope) (cl : List (Str × Addr)) (s₂ : Shared) (I : Addr) (oI : Obj) (C D : Addr) (its : List Value) (K : Nat → List Value → Led → Prop) : Prop :=
  ∀ j ys nx v, its[j]? = some v → K j ys nx → ∃ (t : Addr) (ot : Obj) (v₁ v₂ : Value) (nt : Nat), v = .ref t ∧ (t, ot) ∈ nx ∧ ot.cls = .type "tuple" ∧ ot.data = .seq #[v₁, v₂] nt ∧
    ∀ I₂ oI₂ oC m₂ h tk (E' : Value → Shared → Prop), LCg.NsObj oC m₂ → m₂ a = some v₁ → m₂ b = some v₂ → Fr h₀ L h m → News h₀ L h ((I₂, oI₂) :: (I, oI) :: (C, oC) :: (D, LCg.lst ys) :: nx) → LCg.Off3 I C D nx → (∀ p ∈ nx, p.1 ≠ I₂) →
      wpAny (model prog w) A (eval elt (compEnvC scope cl C env)) (In2End h₀ L m { s₂ with heap := h, toks := tk } I₂ oI₂ I oI C oC D (LCg.lst ys) (fun y nx' => K (j + 1) (ys ++ [y]) nx')) E' { s₂ with heap := h, toks := tk }
noncomputable def Out2End (prog : Program) (w : World) (A : Around) (h₀ : Heap) (L : Addr) (m : Str → Option Value) (env : Env) (elt : PySem.Expr) (a b : Str) (scope : Scope) (cl : List (Str × Addr)) (s₂ : Shared) (I : Addr) (oI : Obj) (C : Addr) (oC : Obj) (D : Addr) (ys₀ : List Value) (J : List Value → Led → Prop) (xv : Value) (s' : Shared) : Prop :=
  ∃ ax₂ its n₂ nx' h' tk' K, xv = .ref ax₂ ∧ s' = { s₂ with heap := h', toks := tk' } ∧ Fr h₀ L h' m ∧ News h₀ L h' ((I, oI) :: (C, oC) :: (D, LCg.lst ys₀) :: nx') ∧ LCg.Off3 I C D nx' ∧ K 0 ys₀ nx' ∧
    (∀ j ys nx, K j ys nx → (ax₂, W.listOf its.toArray n₂) ∈ nx ∧ ys.length ≤ sizeLine) ∧ (∀ h tk, In2Turn prog w A h₀ L m env elt a b scope cl { s₂ with heap := h, toks := tk } I oI C D its K) ∧ ∀ ys nx, K its.length ys nx → J ys nx
noncomputable def Out2Turn (prog : Program) (w : World) (A : Around) (h₀ : Heap) (L : Addr) (m : Str → Option Value) (env : Env) (elt iter₂ : PySem.Expr) (x a b : Str) (scope : Scope) (cl : List (Str × Addr)) (s₂ : Shared) (its₁ : Array Value) (J : Nat → List Value → Led → Prop) : Prop :=
  ∀ i ys nx v I oI C oC D m₂ h tk (E' : Value → Shared → Prop), its₁[i]? = some v → J i ys nx → LCg.NsObj oC m₂ → m₂ x = some v → Fr h₀ L h m → News h₀ L h ((I, oI) :: (C, oC) :: (D, LCg.lst ys) :: nx) → LCg.Off3 I C D nx →
    wpAny (model prog w) A (eval iter₂ (compEnvC scope cl C env)) (Out2End prog w A h₀ L m env elt a b scope cl { s₂ with heap := h, toks := tk } I oI C oC D ys (J (i + 1))) E' { s₂ with heap := h, toks := tk }
noncomputable def Src2 (prog : Program) (w : World) (A : Around) (h₀ : Heap) (L : Addr) (m : Str → Option Value) (env : Env) (elt iter₂ : PySem.Expr) (x a b : Str) (scope : Scope) (cl : List (Str × Addr)) (Fin : Shared → List Value → Led → Prop) (xv : Value) (s₁ : Shared) : Prop :=
  ∃ ax its₁ n₁ news J, xv = .ref ax ∧ A.handled = none ∧ Fr h₀ L s₁.heap m ∧ News h₀ L s₁.heap news ∧ (∀ i ys nx, J i ys nx → (ax, ({ cls := .type "tuple", data := .seq its₁ n₁ } : Obj)) ∈ nx) ∧ J 0 [] news ∧
    ∀ g : Heap, (∀ h tk, Out2Turn prog w A h₀ L m env elt iter₂ x a b scope cl { s₁ with heap := h, toks := tk } its₁ J) ∧ ∀ ys nx, J its₁.size ys nx → Fin { s₁ with heap := g } ys nx
theorem comp2_assign {elt : PySem.Expr} {x y a b : Str} {px py pa pb tp : Pos} {iter₁ iter₂ : PySem.Expr} {kk : Nat} {scope : Scope} {cl : List (Str × Addr)} {pos spos : Pos} {Q : Flow → Shared → Prop} (_F₀ : Fr h₀ L s.heap m) (hLe : env.locals = L)
    (hsw : swapsWith (LC2 elt x px iter₁ [.Name a pa, .Name b pb] kk tp iter₂ scope pos) (some (.Name y py)) spos.line env = pure true)
    (hclos : closureFor scope env = pure cl) (hcell : ∀ z ∈ scope.names, z.2 ≠ .cell) (hkind : scope.kind = .function)
    (hnames : ∀ z ∈ scope.names, z.2 = .local → scope.names.lookup z.1 = some .local) (hx : scope.names.lookup x = some .local) (hxa : scope.names.lookup a = some .local) (hxb : scope.names.lookup b = some .local) (hab : a ≠ b)
    (hy : env.kindOf y = some .local) (hp : (env.scope.kind == .class || (env.scope.kind == .module && env.locals != env.globals)) = false)
    (h : wpAny (model prog w) A (eval iter₁ env) (Src2 prog w A h₀ L m env elt iter₂ x a b scope cl (fun s₂ => LCg.FinA h₀ L m s₂ y Q)) E s)
    (hs : ∀ x, foldedSetIterable iter₁ env x = pure x) (hs2 : ∀ C x, foldedSetIterable iter₂ (compEnvC scope cl C env) x = pure x) :
    wpAny (model prog w) A (exec (.Assign [.Name y py] (LC2 elt x px iter₁ [.Name a pa, .Name b pb] kk tp iter₂ scope pos) spos) env) Q E s := by
  subst hLe
  rw [exec_Assign_Name_used _ _ _ _ hsw]
  refine wpAny_bind (wpAny_standAt (wpAny_bind ?_))
  show wpAny _ A (do let _ ← comprehension (LC2 elt x px iter₁ [.Name a pa, .Name b pb] kk tp iter₂ scope pos) scope env _ (newList []) false (eval iter₁ env) (some (assign (.Name y py) env))) _ _ s
  refine wpAny_bind (wpAny_mono (wpAny_comprehension_free (use := some (assign (.Name y py) env)) (Q := fun _ s' => Q .next s') rfl hs hclos hkind hnames
    (wpAny_mono h (fun xv s₁ h₁ => ?_) fun _ _ e => e)) (fun _ s' hq => wpAny_pure (wpAny_pure hq)) fun _ _ e => e)
  refine ex5_7 h₁ fun ax its₁ n₁ news J e7 hh F N hJax hJ0 hBody => ?_
  clear h₁; subst e7
  have hmax := hJax _ _ _ hJ0
  have hax : s₁.heap.get? ax = some ({ cls := .type "tuple", data := .seq its₁ n₁ } : Obj) := (N _ hmax).1
  have hl : s₁.heap.IsTuple ax its₁ := ⟨_, hax, rfl, n₁, rfl⟩
  refine wpAny_pyIter_tuple hl ?_
  have up : ∀ b o, s₁.heap.get? b = some o → (s₁.heap.push { cls := .type "tuple_iterator", data := .fields #[.ref ax, .int 0 0] }).get? b = some o := fun b o e => Heap.get?_push_of_some _ e
  have W := Walks.tuple (prog := prog) (w := w) (A := A) hh s₁.heap.objs.size ax (Nat.ne_of_lt (Heap.lt_size hax)) its₁
  have hIL : env.locals ≠ s₁.heap.objs.size := Nat.ne_of_lt F.ns.lt
  have hI₀ : h₀.get? s₁.heap.objs.size = none := next_is_new F
  have offI : ∀ p ∈ news, p.1 ≠ s₁.heap.objs.size := fun p hp => Nat.ne_of_lt (Heap.lt_size (N p hp).1)
  have F1 := F.keeps up
  have N1 : News h₀ env.locals _ news := N.grown up
  have hit0 : (s₁.heap.push { cls := .type "tuple_iterator", data := .fields #[.ref ax, .int 0 0] }).IsTupleIter s₁.heap.objs.size ax 0 := ⟨_, Heap.get?_push_size _ rfl, rfl, rfl⟩
  have hIlt : s₁.heap.objs.size < (s₁.heap.push { cls := .type "tuple_iterator", data := .fields #[.ref ax, .int 0 0] }).objs.size := by rw [Heap.size_push]; exact Nat.lt_succ_self _
  generalize hsI : s₁.heap.objs.size = I at *
  generalize hH1 : s₁.heap.push { cls := .type "tuple_iterator", data := .fields #[.ref ax, .int 0 0] } = H1 at *
  refine wpAny_newObj_type (wpAny_newFunctionEnv hcell (by intro y hy; simp at hy) (fun h₁ hns₁ hsb₁ => ?_) hkind)
  dsimp only at hns₁ hsb₁ ⊢
  generalize hH2 : H1.push { cls := .type "list", dict := none, data := .seq ([] : List Value).toArray } = H2 at hns₁ hsb₁ ⊢
  have hC : H2.objs.size = H1.objs.size + 1 := by rw [← hH2, Heap.size_push]
  have hDC : H1.objs.size ≠ H2.objs.size := by rw [hC]; exact Nat.ne_of_lt (Nat.lt_succ_self _)
  have below : ∀ b, b < H1.objs.size → b ≠ H2.objs.size ∧ b ≠ H1.objs.size := fun b hb => ⟨by rw [hC]; exact Nat.ne_of_lt (Nat.lt_succ_of_lt hb), Nat.ne_of_lt hb⟩
  have old : ∀ b o, H1.get? b = some o → h₁.get? b = some o := fun b o e => hsb₁.extBut b o (below b (Heap.lt_size e)).1 (Heap.get?_push_of_some _ (hH2 ▸ Heap.get?_push_of_some _ e))
  have hacc : h₁.get? H1.objs.size = some (LCg.lst []) := hsb₁.extBut _ _ hDC (Heap.get?_push_of_some _ (hH2 ▸ Heap.get?_push_size _ rfl))
  have fresh : ∀ a, H1.objs.size ≤ a → H1.get? a = none := fun a ha => by
    cases e : H1.get? a with
    | none => rfl
    | some o' => exact absurd (Heap.lt_size e) (Nat.not_lt.mpr ha)
  have fresh₀ : ∀ a, H1.objs.size ≤ a → h₀.get? a = none := fun a ha => by
    cases e : h₀.get? a with
    | none => rfl
    | some o' => have := F1.keep a o' e; rw [fresh a ha] at this; cases this
  have hD₀ : h₀.get? H1.objs.size = none := fresh₀ _ (Nat.le_refl _)
  have hC₀ : h₀.get? H2.objs.size = none := fresh₀ _ (by rw [hC]; exact Nat.le_succ _)
  have hLlt : env.locals < H1.objs.size := F1.ns.lt
  have hDL : H1.objs.size ≠ env.locals := Ne.symm (below _ hLlt).2
  have hCL : H2.objs.size ≠ env.locals := Ne.symm (below _ hLlt).1
  have hCI : I ≠ H2.objs.size := (below I hIlt).1
  have hDI : I ≠ H1.objs.size := (below I hIlt).2
  have off₀ : LCg.Off3 I H2.objs.size H1.objs.size news := LCg.Off3.of fun p hp => ⟨offI p hp, (below _ (Heap.lt_size (N1 p hp).1)).1, (below _ (Heap.lt_size (N1 p hp).1)).2⟩
  generalize hsC : H2.objs.size = C at *
  generalize hsD : H1.objs.size = D at *
  have loop : ∀ s₃ : Shared, s₃ = { s₁ with heap := h₁, toks := s₁.toks + ([] : List (Str × Value)).length } →
      codeAny (model prog w) A (.compLoop (LC2 elt x px iter₁ [.Name a pa, .Name b pb] kk tp iter₂ scope pos) 0 (.ref I) (.ref D) (compEnvC scope cl C env))
        (compPost (model prog w) A E (some (assign (.Name y py) env)) (fun _ s' => Q .next s') (.ref D) C) s₃ := by
    rintro s₃ rfl
    refine loop_out (fun k s' => ∃ h' tk i ys m' nx, s' = { s₁ with heap := h', toks := tk } ∧ i ≤ its₁.size ∧ k = its₁.size + 1 - i ∧ h'.IsTupleIter I ax i ∧ Fr h₀ env.locals h' m ∧ h'.Ns C m' ∧ News h₀ env.locals h' ((D, LCg.lst ys) :: nx) ∧
      LCg.Off3 I C D nx ∧ J i ys nx) (hs2 C) ?_ (its₁.size + 1) ⟨h₁, _, 0, [], _, news, rfl, Nat.zero_le _, rfl, ?_, F1.keeps old, hns₁, fun p hp => ?_, off₀, hJ0⟩
    · intro k s' hI
      refine ex6_9 hI fun h' tk i ys m' nx e7 hi e8 hit F' hn' N' off' J' => ?_
      clear hI; subst e7; subst e8
      have off3 := off'.mem
      have htp : h'.IsTuple ax its₁ := ⟨_, (N' _ (.tail _ (hJax _ _ _ J'))).1, rfl, n₁, rfl⟩
      have offN : ∀ p ∈ (D, LCg.lst ys) :: nx, p.1 ≠ I := fun p hp => by
        rcases List.mem_cons.mp hp with rfl | hp
        · exact Ne.symm hDI
        · exact (off3 p hp).1
      by_cases hlt : i < its₁.size
      · refine W.item i _ _ _ hlt ⟨hit, htp⟩ fun v h₂ tk₂ hPv hst₂ hk₂ => ?_
        refine wpAny_assign_Name (wpAny_storeName_local (lookup_relabel_local hx) (hn'.at' fun o e => hk₂ _ o (by simpa using Ne.symm hCI) e) (fun h₃ hn₃ hs₃ => ?_) (by simp [compEnvC, relabel, hkind]))
        have hit₃ : h₃.IsTupleIter I ax (i + 1) := by
          obtain ⟨o, e, r⟩ := hst₂.1
          exact ⟨o, hs₃.extBut _ _ hCI e, r⟩
        have hoE : ∃ oI : Obj, h₃.get? I = some oI ∧ ∀ h : Heap, h.get? I = some oI → h.IsTupleIter I ax (i + 1) := by
          obtain ⟨o, e, r⟩ := hit₃
          exact ⟨o, e, fun h e' => ⟨o, e', r⟩⟩
        refine ex1_2 hoE fun oI heI hoI => ?_
        refine ex1_2 (LCg.ns_obj hn₃) fun oC heC hoC => ?_
        have F₃ : Fr h₀ env.locals h₃ m := (LCg.fr_but F' hk₂ hIL hI₀).change hs₃ hCL hC₀
        have N₂ : News h₀ env.locals h₂ ((D, LCg.lst ys) :: nx) := LCg.news_but N' hk₂ offN
        have N₃ : News h₀ env.locals h₃ ((I, oI) :: (C, oC) :: (D, LCg.lst ys) :: nx) := fun p hp => by
          rcases List.mem_cons.mp hp with rfl | hp
          · exact ⟨heI, Ne.symm hIL, hI₀⟩
          · rcases List.mem_cons.mp hp with rfl | hp
            · exact ⟨heC, hCL, hC₀⟩
            · have z := N₂ p hp
              refine ⟨hs₃.extBut _ _ ?_ z.1, z.2⟩
              rcases List.mem_cons.mp hp with rfl | hp
              · exact hDC
              · exact (off3 p hp).2.1
        refine wpAny_mono ((hBody H1).1 h₃ 0 i ys nx v I oI C oC D _ h₃ _ _ hPv J' hoC (by simp) F₃ N₃ off') (fun xv s₄ h₄ => ?_) fun _ _ e => e
        refine ex7_9 h₄ fun ax₂ its n₂ nx' h₄' tk₄ K e7 e8 F₄ N₄ off₄ K₀ hK hT hend => ?_
        subst e7; subst e8
        have zC := (N₄ (C, oC) (.tail _ (.head _))).1
        refine comp2_in K hh hkind hxa hxb hab F₄ (hoC.ns zC) (fun p hp => ?_) off₄ hCI hDI (Ne.symm hDC) hCL hC₀ (fun j ys nx q => (hK j ys nx q).1) (fun j ys nx q => (hK j ys nx q).2) K₀ (hT h₄' tk₄) ?_
        · rcases List.mem_cons.mp hp with rfl | hp
          · exact N₄ _ (.head _)
          · exact N₄ _ (.tail _ (.tail _ hp))
        · intro h₅ tk₅ m₅ ys₅ nx₅ F₅ hn₅ N₅ off₅ K₅
          exact ⟨its₁.size + 1 - (i + 1), by omega, h₅, tk₅, i + 1, ys₅, m₅, nx₅, rfl, hlt, rfl, hoI h₅ (N₅ _ (.head _)).1, F₅, hn₅, fun p hp => N₅ _ (.tail _ hp), off₅, hend _ _ K₅⟩
      · obtain rfl : i = its₁.size := Nat.le_antisymm hi (Nat.not_lt.mp hlt)
        refine W.done _ _ _ ⟨hit, htp⟩ fun h₂ tk₂ hk₂ => ?_
        have F₂ := LCg.fr_but F' hk₂ hIL hI₀
        have N₂ : News h₀ env.locals h₂ ((D, LCg.lst ys) :: nx) := LCg.news_but N' hk₂ offN
        have hn₂ := hn'.at' fun o e => hk₂ _ o (by simpa using Ne.symm hCI) e
        have fin := (hBody H1).2 ys nx J'
        show wpAny _ A (assign (.Name y py) env (.ref D)) _ _ _
        refine wpAny_assign_Name (wpAny_storeName_local hy F₂.ns (fun h₃ hn₃ hs₃ => ?_) hp)
        have hL₀ : h₀.get? env.locals = none := Heap.get?_none_of_le F₂.above
        have F₃ : Fr h₀ env.locals h₃ (fun z => if z = y then some (.ref D) else m z) := ⟨hn₃, fun b o e => hs₃.extBut b o (fun q => by rw [q, hL₀] at e; cases e) (F₂.keep b o e), F₂.above⟩
        refine ⟨_, hn₂.sameBut hs₃ hCL, fun h'' hs'' => fin D h'' _ (F₃.change hs'' hCL hC₀) (fun p hp => ?_) off'.one⟩
        have z : h₃.get? p.1 = some p.2 := hs₃.extBut _ _ (N₂ p hp).2.1 (N₂ p hp).1
        refine ⟨hs''.extBut _ _ ?_ z, (N₂ p hp).2⟩
        rcases List.mem_cons.mp hp with rfl | hp
        · exact hDC
        · exact (off3 p hp).2.1
    · obtain ⟨o, e, r⟩ := hit0
      exact ⟨o, old _ _ e, r⟩
    · rcases List.mem_cons.mp hp with rfl | hp
      · exact ⟨hacc, hDL, hD₀⟩
      · exact ⟨old _ _ (N1 p hp).1, (N1 p hp).2⟩
  refine codeAny_compStart_list (loop _ rfl) (W.self 0 _ _ _ ⟨?_, ?_⟩ (loop _ rfl))
  · obtain ⟨o, e, r⟩ := hit0
    exact ⟨o, old _ _ e, r⟩
  · exact ⟨_, old _ _ (N1 _ hmax).1, rfl, n₁, rfl⟩
end
section
variable {prog : Program} {w : World} {A : Around} {E : Value → Shared → Prop} {s : Shared} {h₀ : Heap} {L : Addr} {m : Str → Option Value} {env : Env}
noncomputable def SrcTT (prog : Program) (w : World) (A : Around) (h₀ : Heap) (L : Addr) (m : Str → Option Value) (env : Env) (ct elt : PySem.Expr) (x : Str) (scope : Scope) (cl : List (Str × Addr)) (Fin : Shared → List Value → Led → Prop) (xv : Value) (s₁ : Shared) : Prop :=
  ∃ ax its n news, xv = .ref ax ∧ A.handled = none ∧ Fr h₀ L s₁.heap m ∧ News h₀ L s₁.heap news ∧ (ax, ({ cls := .type "tuple", data := .seq its n } : Obj)) ∈ news ∧ its.size ≤ sizeLine ∧
    ∀ s₂ : Shared, (∃ h, s₂ = { s₁ with heap := h }) → LCt.CompRestT prog w A h₀ L m env ct elt x scope cl s₂ (fun nw => (ax, ({ cls := .type "tuple", data := .seq its n } : Obj)) ∈ nw) (fun i v => its[i]? = some v) (Fin s₂) its.size 0 [] news
/-- a comprehension with one test over a tuple -/
theorem Assign_ListComp_TT {ct elt iter : PySem.Expr} {x y : Str} {px py : Pos} {scope : Scope} {cl : List (Str × Addr)} {pos spos : Pos} {Q : Flow → Shared → Prop} (F₀ : Fr h₀ L s.heap m) (hLe : env.locals = L)
    (hsw : swapsWith (.ListComp elt [⟨.Name x px, iter, [ct], 0⟩] scope pos) (some (.Name y py)) spos.line env = pure true)
    (hclos : closureFor scope env = pure cl) (hcell : ∀ z ∈ scope.names, z.2 ≠ .cell) (hkind : scope.kind = .function)
    (hnames : ∀ z ∈ scope.names, z.2 = .local → scope.names.lookup z.1 = some .local) (hx : scope.names.lookup x = some .local)
    (hy : env.kindOf y = some .local) (hp : (env.scope.kind == .class || (env.scope.kind == .module && env.locals != env.globals)) = false)
    (h : wpAny (model prog w) A (eval iter env) (SrcTT prog w A h₀ L m env ct elt x scope cl (fun s₂ => LCg.FinA h₀ L m s₂ y Q)) E s)
    (hs : ∀ x, foldedSetIterable iter env x = pure x := by intro _; rfl) :
    wpAny (model prog w) A (exec (.Assign [.Name y py] (.ListComp elt [⟨.Name x px, iter, [ct], 0⟩] scope pos) spos) env) Q E s := by
  subst hLe
  rw [exec_Assign_Name_used _ _ _ _ hsw]
  refine wpAny_bind (wpAny_standAt (wpAny_bind ?_))
  show wpAny _ A (do let _ ← comprehension (.ListComp elt [⟨.Name x px, iter, [ct], 0⟩] scope pos) scope env _ (newList []) false (eval iter env) (some (assign (.Name y py) env))) _ _ s
  refine wpAny_bind (wpAny_mono (wpAny_comprehension_free (use := some (assign (.Name y py) env)) (Q := fun _ s' => Q .next s') rfl hs hclos hkind hnames
    (wpAny_mono h (fun xv s₁ h₁ => ?_) fun _ _ e => e)) (fun _ s' hq => wpAny_pure (wpAny_pure hq)) fun _ _ e => e)
  obtain ⟨ax, its, n, news, rfl, hh, F, N, S, hsz, R⟩ := h₁
  have hl : s₁.heap.IsTuple ax its := ⟨_, (N _ S).1, rfl, n, rfl⟩
  have hlt : ax < s₁.heap.objs.size := Heap.lt_size (N _ S).1
  refine wpAny_pyIter_tuple hl ?_
  have up : ∀ b o, s₁.heap.get? b = some o → (s₁.heap.push { cls := .type "tuple_iterator", data := .fields #[.ref ax, .int 0 0] }).get? b = some o := fun b o e => Heap.get?_push_of_some _ e
  refine LCt.block_T (Walks.tuple hh s₁.heap.objs.size ax (Nat.ne_of_lt hlt) its) hsz (fun i h st => by obtain ⟨o, e, _⟩ := st.1; exact ⟨o, e⟩) (fun i h h' o nw st e e' _ N' S' => ?_) hcell hkind hx ⟨⟨_, Heap.get?_push_size _ rfl, rfl, rfl⟩, _, up _ _ (N _ S).1, rfl, n, rfl⟩ (fun b hb => ?_)
    (F.keeps up) (N.grown up) (Nat.ne_of_lt F.ns.lt) (next_is_new F) (fun p hp => Nat.ne_of_lt (Heap.lt_size (N p hp).1)) S (R _ ⟨_, rfl⟩) ?_
  · obtain ⟨⟨o2, e2, r2⟩, _⟩ := st
    rw [e] at e2
    obtain rfl := Option.some.inj e2
    exact ⟨⟨o, e', r2⟩, _, (N' _ S').1, rfl, n, rfl⟩
  · show b < (s₁.heap.push _).objs.size
    rw [Heap.size_push]
    rcases List.mem_cons.mp hb with rfl | hb
    · exact Nat.lt_succ_self _
    · rw [List.mem_singleton.mp hb]; exact Nat.lt_succ_of_lt hlt
  · intro D C h' tk m' ys news' F' N' o1 hn hC₀ hD₀ hCL hDL hCD offC fin
    show wpAny _ A (assign (.Name y py) env (.ref D)) _ _ _
    refine wpAny_assign_Name (wpAny_storeName_local hy F'.ns (fun h₂ hn₂ hs₂ => ?_) hp)
    have hL₀ : h₀.get? env.locals = none := Heap.get?_none_of_le F'.above
    have F₂ : Fr h₀ env.locals h₂ (fun z => if z = y then some (.ref D) else m z) := ⟨hn₂, fun b o e => hs₂.extBut b o (fun q => by rw [q, hL₀] at e; cases e) (F'.keep b o e), F'.above⟩
    refine ⟨m', hn.sameBut hs₂ hCL, fun h'' hs'' => fin D h'' _ (F₂.change hs'' hCL hC₀) (fun p hp => ?_) o1⟩
    have z : h₂.get? p.1 = some p.2 := hs₂.extBut _ _ (N' p hp).2.1 (N' p hp).1
    refine ⟨hs''.extBut _ _ ?_ z, (N' p hp).2⟩
    rcases List.mem_cons.mp hp with rfl | hp
    · exact Ne.symm hCD
    · exact offC p hp
end
section
variable {prog : Program} {w : World} {A : Around} {E : Value → Shared → Prop} {s : Shared} {env : Env} {h₀ : Heap} {x : Str} {body : List Stmt} {Q : Flow → Shared → Prop}
/-- a loop over a tuple -/
theorem my_tup {l : Addr} {its : Array Value} {nn : Nat} {m₀ : Str → Option Value} {news : Led} (J : Nat → (Str → Option Value) → Led → Prop)
    (hh : A.handled = none) (hl : (l, ({ cls := .type "tuple", data := .seq its nn } : Obj)) ∈ news) (F : Fr h₀ env.locals s.heap m₀) (N : News h₀ env.locals s.heap news) (hj : J 0 m₀ news)
    (turn : ∀ i v m₁ news₁ h tk own, its[i]? = some v → OwnOff own (news₁.map (·.1)) → (l, ({ cls := .type "tuple", data := .seq its nn } : Obj)) ∈ news₁ → J i m₁ news₁ → Fr h₀ env.locals h (fun y => if y = x then some v else m₁ y) → News h₀ env.locals h (news₁ ++ own) →
      wpAny (model prog w) A (execs body env) (InvPostG h₀ env.locals (fun m' nx => (l, ({ cls := .type "tuple", data := .seq its nn } : Obj)) ∈ nx ∧ J (i + 1) m' nx) own { s with heap := h, toks := tk } Q) E { s with heap := h, toks := tk })
    (done : ∀ m₁ news₁ h tk, J its.size m₁ news₁ → Fr h₀ env.locals h m₁ → News h₀ env.locals h news₁ → Q .next { s with heap := h, toks := tk }) :
    wpAny (model prog w) A (pyIter (.ref l)) (fun it s₂ => LoopAtV prog w A h₀ env x body Q E it s₂) E s := by
  have hol : s.heap.get? l = some ({ cls := .type "tuple", data := .seq its nn } : Obj) := (N _ hl).1
  have hls : s.heap.IsTuple l its := ⟨_, hol, rfl, nn, rfl⟩
  have hne : l ≠ s.heap.objs.size := Nat.ne_of_lt (Heap.lt_size hol)
  refine wpAny_pyIter_tuple hls ?_
  have W := Walks.tuple (prog := prog) (w := w) hh s.heap.objs.size l hne its
  refine ⟨_, _, _, its.size, _, _, m₀, news, (fun i m nx => (l, ({ cls := .type "tuple", data := .seq its nn } : Obj)) ∈ nx ∧ J i m nx), rfl, W, ?_, ?_, ?_, ⟨⟨_, Heap.get?_push_size _ rfl, rfl, rfl⟩, _, Heap.get?_push_of_some _ hol, rfl, nn, rfl⟩, F.push _, (fun p hp => ⟨Heap.get?_push_of_some _ (N p hp).1, (N p hp).2⟩), ⟨hl, hj⟩, ?_, ?_⟩
  · intro hm
    rcases List.mem_cons.mp hm with e | hm
    · exact absurd F.ns.lt (e ▸ Nat.lt_irrefl _)
    · exact (N _ hl).2.1 ((List.mem_singleton.mp hm).symm)
  · intro b hb
    rw [List.mem_singleton.mp hb]
    exact next_is_new F
  · intro p hp hI
    exact absurd (Heap.lt_size (N p hp).1) ((List.mem_singleton.mp hI) ▸ Nat.lt_irrefl _)
  · rintro i v m₁ news₁ s₁ own ⟨hh', tk', rfl⟩ hin hP ⟨hl₁, hJ⟩ hoff hown hget hfp hst F₁ N₁
    have hI0 : h₀.get? s.heap.objs.size = none := next_is_new F
    obtain ⟨⟨oI, hoI, _⟩, _⟩ := id hst
    have hIown : (s.heap.objs.size, oI) ∈ own.filter fun p => decide (p.1 = s.heap.objs.size) := List.mem_filter.mpr ⟨hfp _ (List.mem_cons.mpr (.inl rfl)) hI0 _ hoI, by simp⟩
    have hsep : OwnOff (own.filter fun p => decide (p.1 = s.heap.objs.size)) (news₁.map (·.1)) := by
      intro p hp b hb e
      obtain ⟨q, hq, rfl⟩ := List.mem_map.mp hb
      have h1 : p.1 = s.heap.objs.size := by simpa using (List.mem_filter.mp hp).2
      exact hoff q hq (List.mem_singleton.mpr (e ▸ h1))
    have N₂ : News h₀ env.locals hh' (news₁ ++ own.filter fun p => decide (p.1 = s.heap.objs.size)) := fun p hp => N₁ p ((List.mem_append.mp hp).elim (fun h => List.mem_append.mpr (.inr h)) fun h => List.mem_append.mpr (.inl ((List.mem_filter.mp h).1)))
    have hlo : hh'.get? l = some ({ cls := .type "tuple", data := .seq its nn } : Obj) := (N₁ _ (List.mem_append.mpr (.inr hl₁))).1
    refine wpAny_mono (turn i v m₁ news₁ hh' tk' _ hP hsep hl₁ hJ F₁ N₂) (fun f s₂ p => ?_) fun _ _ e => e
    have fin : InvEndG h₀ env.locals (fun m' nx => (l, ({ cls := .type "tuple", data := .seq its nn } : Obj)) ∈ nx ∧ J (i + 1) m' nx) (own.filter fun p => decide (p.1 = s.heap.objs.size)) { s with heap := hh', toks := tk' } s₂ →
        LoopStepU h₀ env.locals [s.heap.objs.size] own (fun m nx => (l, ({ cls := .type "tuple", data := .seq its nn } : Obj)) ∈ nx ∧ J (i + 1) m nx) { s with heap := hh', toks := tk' } .next s₂ := by
      rintro ⟨h', tk, m', news', nx, e, F', N', hn, ho, ha, hm⟩
      refine ⟨rfl, h', tk, m', nx, e, F', fun p hp => ?_, fun p hp hq => ?_, hm⟩
      · rcases List.mem_append.mp hp with h | h
        · by_cases hI : p.1 = s.heap.objs.size
          · exact N' p (ho p (List.mem_filter.mpr ⟨h, by simpa using hI⟩))
          · have h1 : p.1 = l := by
              rcases List.mem_cons.mp (hown p h) with h2 | h2
              · exact absurd h2 hI
              · exact List.mem_singleton.mp h2
            have h2 : hh'.get? p.1 = some p.2 := hget p h
            rw [h1, hlo] at h2
            have h3 : p = (l, ({ cls := .type "tuple", data := .seq its nn } : Obj)) := Prod.ext h1 (Option.some.inj h2).symm
            rw [h3]
            exact N' _ (hn _ hm.1)
        · exact N' p (hn p h)
      · exact ha _ hIown p.1 (List.mem_map.mpr ⟨p, hp, rfl⟩) (List.mem_singleton.mp hq).symm
    cases f with
    | ret v => exact .ret p
    | brk => exact .brk p
    | next => exact .next (fin p)
    | cont => exact .cont (fin p)
  · rintro h' tk m' news' F' N' _ ⟨_, hJ⟩
    exact done m' news' h' tk hJ F' N'
/-- a loop over a tuple whose turns store no name but their own and leave the ledger as it was -/
theorem my_tup_ro {l : Addr} {its : Array Value} {nn : Nat} {m₀ : Str → Option Value} {news : Led}
    (hh : A.handled = none) (hl : (l, ({ cls := .type "tuple", data := .seq its nn } : Obj)) ∈ news) (F : Fr h₀ env.locals s.heap m₀) (N : News h₀ env.locals s.heap news)
    (turn : ∀ (i : Nat) v h tk nw, its[i]? = some v → (∀ p ∈ news, p ∈ nw) → Fr h₀ env.locals h (fun y => if y = x then some v else m₀ y) → News h₀ env.locals h nw →
      wpAny (model prog w) A (execs body env) (RoPost x h₀ env.locals m₀ nw s Q) E { s with heap := h, toks := tk })
    (done : ∀ (u : Str → Option Value) h tk, Fr h₀ env.locals h (fun y => if y = x then u y else m₀ y) → News h₀ env.locals h news → Q .next { s with heap := h, toks := tk }) :
    wpAny (model prog w) A (pyIter (.ref l)) (fun it s₂ => LoopAtV prog w A h₀ env x body Q E it s₂) E s := by
  refine my_tup (fun _ m nx => nx = news ∧ ∀ z, z ≠ x → m z = m₀ z) hh hl F N ⟨rfl, fun _ _ => rfl⟩ ?_ ?_
  · rintro i v m₁ nx h tk own hi hoff _ ⟨rfl, hm⟩ F₁ N₁
    have em : (fun y => if y = x then some v else m₁ y) = fun y => if y = x then some v else m₀ y := by
      funext y
      by_cases q : y = x
      · simp only [if_pos q]
      · simp only [if_neg q]; exact hm y q
    rw [em] at F₁
    refine wpAny_mono (turn i v h tk (nx ++ own) hi (fun p hp => List.mem_append.mpr (.inl hp)) F₁ N₁) (fun f s₂ q => ?_) fun _ _ q => q
    cases f with
    | ret v => exact q
    | brk => exact q
    | next =>
      obtain ⟨h', tk', m', e, F', N', hz⟩ := q
      exact ⟨h', tk', m', nx ++ own, nx, e, F', N', fun p hp => List.mem_append.mpr (.inl hp), fun p hp => List.mem_append.mpr (.inr hp), hoff, hl, rfl, hz⟩
    | cont =>
      obtain ⟨h', tk', m', e, F', N', hz⟩ := q
      exact ⟨h', tk', m', nx ++ own, nx, e, F', N', fun p hp => List.mem_append.mpr (.inl hp), fun p hp => List.mem_append.mpr (.inr hp), hoff, hl, rfl, hz⟩
  · rintro m₁ nx h tk ⟨rfl, hm⟩ F₁ N₁
    refine done m₁ h tk ?_ N₁
    have em : (fun y => if y = x then m₁ y else m₀ y) = m₁ := by
      funext y
      by_cases q : y = x
      · simp only [if_pos q]
      · simp only [if_neg q]; exact (hm y q).symm
    rw [em]
    exact F₁
end
noncomputable def shiftP (mv : Int) (p : Int × Int) : Int × Int := (p.1, p.2 + mv)
theorem datLen {nx : Led} {vs : List Value} {l : List (Int × Int)} (h : DatAll nx vs (l.map pairD)) : vs.length = l.length := by rw [h.length, List.length_map]
/-- what holds between the turns of the inner loop -/
structure AlK (base ex : Led) (E9 : Addr) (oE : Obj) (R : List (Int × Int)) (nz : Led) (zs : List Value) : Prop where
  bs : ∀ p ∈ base, p ∈ nz
  xs : ∀ p ∈ ex, p ∈ nz
  src : (E9, oE) ∈ nz
  dat : DatAll nz zs (R.map pairD)
theorem AlK.step {base ex : Led} {E9 T : Addr} {oE : Obj} {R : List (Int × Int)} {nz : Led} {zs : List Value} {k w : Int} {t u : Tok} {n : Nat} (K : AlK base ex E9 oE R nz zs) : AlK base ex E9 oE (R ++ [(k, w)]) ((T, ({ cls := .type "tuple", data := .seq #[.int k t, .int w u] n } : Obj)) :: nz) (zs ++ [.ref T]) :=
  ⟨fun p hp => .tail _ (K.bs p hp), fun p hp => .tail _ (K.xs p hp), .tail _ K.src, dat_next K.dat (dat_pair (.head _))⟩
theorem off3_cons {I C D T : Addr} {o : Obj} {l : Led} (h : LCg.Off3 I C D l) (h1 : @LT.lt Nat _ I T) (h2 : @LT.lt Nat _ C T) (h3 : @LT.lt Nat _ D T) : LCg.Off3 I C D ((T, o) :: l) := ⟨⟨Nat.ne_of_gt h1, Nat.ne_of_gt h2, Nat.ne_of_gt h3⟩, h⟩
theorem off3_append {I C D : Addr} {oI oC oD : Obj} {ex l : Led} (h : LCg.Off3 I C D l) (hf : ∀ p ∈ ex, ∀ q ∈ (I, oI) :: (C, oC) :: (D, oD) :: l, p.1 ≠ q.1) : LCg.Off3 I C D (ex ++ l) := LCg.Off3.of fun p hp => by
  rcases List.mem_append.mp hp with hp | hp
  · exact ⟨hf p hp _ (.head _), hf p hp _ (.tail _ (.head _)), hf p hp _ (.tail _ (.tail _ (.head _)))⟩
  · exact h.mem p hp
theorem in2_sub {a b c d e : Addr × Obj} (l : Led) : ∀ p ∈ a :: b :: c :: d :: e :: l, p ∈ e :: a :: b :: c :: d :: l := by
  intro p hp
  simp only [List.mem_cons] at hp ⊢
  rcases hp with h | h | h | h | h | h
  · exact .inr (.inl h)
  · exact .inr (.inr (.inl h))
  · exact .inr (.inr (.inr (.inl h)))
  · exact .inr (.inr (.inr (.inr (.inl h))))
  · exact .inl h
  · exact .inr (.inr (.inr (.inr (.inr h))))
theorem pairs_ok {l : List (Int × Int)} : ∀ d ∈ l.map pairD, kqdOk 8 d = true := by
  intro d hd
  obtain ⟨p, _, rfl⟩ := List.mem_map.mp hd
  rfl
theorem louts2_left (C : Cfg) (q : Option Row) (now : Int) : louts2 C q none now = [] ∨ ∃ a, louts2 C q none now = [(1, a)] := by
  have e : louts2 C q none now = louts C 1 q now := by unfold louts2; rw [show louts C 2 none now = [] from louts_none rfl, List.append_nil]
  rw [e]; exact louts_form C 1 q now
theorem louts2_right (C : Cfg) (q : Option Row) (now : Int) : louts2 C none q now = [] ∨ ∃ a, louts2 C none q now = [(2, a)] := by
  have e : louts2 C none q now = louts C 2 q now := by unfold louts2; rw [show louts C 1 none now = [] from louts_none rfl, List.nil_append]
  rw [e]; exact louts_form C 2 q now
noncomputable def minL (l : List (Int × Int)) : Option Int := minO (l.map (·.2))
theorem mins {C : Cfg} {q1 q2 q3 q4 : Option Row} {now mv : Int} {l1 l2 : List (Int × Int)} (f1 : louts2 C q1 none now = l1) (f2 : louts2 C none q2 now = l2) (hE : louts2 C q3 q4 (now + mv) = (louts2 C q1 none now ++ louts2 C none q2 now).map (shiftP mv)) :
    minO ((louts2 C q1 none now).map (·.2)) = minL l1 ∧ minO ((louts2 C none q2 now).map (·.2)) = minL l2 ∧ minO ((louts2 C q3 q4 (now + mv)).map (·.2)) = minL ((l1 ++ l2).map (shiftP mv)) := by
  rw [hE, f1, f2]; exact ⟨rfl, rfl, rfl⟩
noncomputable def notNone : Value → Bool
  | .none => false
  | _ => true
theorem opt_form {v : Value} {o : Option Int} (h : OptIs v o) : v = Value.none ∨ ∃ a t, v = Value.int a t := by
  cases o with
  | none => exact .inl h
  | some a => obtain ⟨t, e⟩ := h; exact .inr ⟨a, t, e⟩
theorem fr_abs {h₀ h : Heap} {L : Addr} {m : Str → Option Value} (F : Fr h₀ L h m) : ∃ mm, mm = m ∧ Fr h₀ L h mm := ⟨m, rfl, F⟩
theorem told_alike_c {w : World} {mean : ExcName → Option Value} {mg mb : Str → Option Value} {news : Led} {d1 dx1 d2 dx2 d3 dx3 c r1 r2 r3 al : Addr} {oc or1 or2 or3 oal : Obj} {kc : List (Str × Value)} {kv1 kv2 kv3 ka : List (Int × Value)} {top : Int} (now mv : Int) (C : Cfg) (q1 q2 q3 q4 : Option Row) (tn tm : Tok)
    (D1 : DmpAt w news d1 dx1 c r1 oc or1 kc kv1 top) (D2 : DmpAt w news d2 dx2 c r2 oc or2 kc kv2 top) (D3 : DmpAt w news d3 dx3 c r3 oc or3 kc kv3 top) (ha : CfgAt kc C) (hC : CfgOk C)
    (R1 : Rows2 news kv1 q1 none) (R2 : Rows2 news kv2 none q2) (R3 : Rows2 news kv3 q3 q4) (k1 : RowOk now q1) (k2 : RowOk now q2) (k3 : RowOk (now + mv) q3) (k4 : RowOk (now + mv) q4)
    (hal : (al, oal) ∈ news) (hald : oal.IsDictOf (PySem.intKind Mine.XL.row.prog w) ka) (ha1 : valueAt ka 1 = some (.ref d1)) (ha2 : valueAt ka 2 = some (.ref d2)) (hn : 0 ≤ now ∧ now < 1000) (hm : 0 ≤ mv ∧ mv < 100)
    (hE : louts2 C q3 q4 (now + mv) = (louts2 C q1 none now ++ louts2 C none q2 now).map (shiftP mv)) (hp1 : penR C.half q3 (now + mv) = penR C.half q1 now) (hp2 : penR C.half q4 (now + mv) = penR C.half q2 now) :
    CtrL w mean mg mb 157 8 160 news [.ref d3, .ref al, .int now tn, .int mv tm] (fun res news' => news' = news ∧ res = .bool true) := by
  (w_top off; k_with_none; (k_with "my updF" => (first | assumption | exact UpdF.tail (my_ne (by assumption) (by assumption)) (by assumption))); (k_with "my upd" => (exact updF_upd (by assumption) _)); (k_with "my mem" => (first | exact updF_new (by assumption) _ | exact updF_old (by assumption) (by assumption) (by assumption) | (refine List.mem_cons_of_mem _ ?_; k_mem) | (refine List.mem_append_right _ ?_; k_mem))); (k_with "my islist" => (exact News.isList (by k_asm) (by k_mem))); (k_with "my fact" => (first | assumption | trivial | omega | (refine ⟨?_, ?_⟩ <;> omega) | ((try dsimp only); first | assumption | omega | l_fact))); (k_with "compareOp NotIn int ref" => ((k_here; k_dflt (refine my_notin (by k_asm) (by k_mem) (by k_asm) (by k_asm) _ (by assumption) ?_); (try dsimp only [Bool.not_true, Bool.not_false])))); (k_with "compareOp In int ref" => ((k_here; k_dflt (refine my_in (by k_asm) (by k_mem) (by k_asm) (by k_asm) _ (by assumption) ?_); (try dsimp only)))); (k_with "subscriptTail" => ((k_here; k_dflt (first
  | ((with_reducible show wpAny _ _ (subscriptTail _ _ (Value.ref _) (Value.str _ _)) _ _ _); refine kda_item (knd := PySem.strKind _ _) (by k_asm) (by k_mem) (by k_asm) (strKind_is _ _ _ _) (by assumption) ?_; (try dsimp only))
  | ((with_reducible show wpAny _ _ (subscriptTail _ _ (Value.ref _) (Value.int _ _)) _ _ _); refine kda_item (knd := PySem.intKind _ _) (by k_asm) (by k_mem) (by k_asm) (intKind_is _ _ _ _) (by assumption) ?_; (try dsimp only)))))); (k_with "setItem ref int" => ((k_here; (with_reducible show wpAny _ _ (setItem (Value.ref _) (Value.int _ _) (Value.ref _)) _ _ _); k_dflt (refine kda_set (knd := PySem.intKind _ _) (by k_asm) (by k_asm) (by k_updF) (by k_asm) (intKind_is _ _ _ _) (by rw [sizeLine_eq]; omega) ?_)); intro h9 o9 F9 N9 hd9; (try dsimp only at N9); (try dsimp only))); (k_with "my sub" => (intro p9 hp9; repeat (first | exact hp9 | assumption | refine List.mem_cons_of_mem _ ?_ | refine List.mem_append_right _ ?_))); (k_with "call ref" => ((k_here; (with_reducible show wpAny _ _ (call (Value.ref 121) _) _ _ _); k_dflt (refine Ctr.cOut (by k_asm) (by k_asm) (by k_asm) (by k_asm) (by k_asm) (by first | exact rfl | assumption) (by (first | exact room3 (by assumption) (by rfl) | exact room2 (by assumption) (by rfl) | exact room1 (by assumption) | exact Nat.le_of_ble_eq_true rfl | ktr_room)) (by first | (first | exact room3 (by assumption) (by rfl) | exact room2 (by assumption) (by rfl) | exact room1 (by assumption) | exact Nat.le_of_ble_eq_true rfl | ktr_units) | exact Nat.le_of_ble_eq_true rfl | (have hcL9 := cLine_is; (try simp only [units_under_make, units_in1, units_deeper, Around.mark_units, units_caller] at *); (try dsimp only [ktrTop] at *); omega)) (left_out_c _ _ _ _ _ (by first | assumption | exact DmpAt.mono (by assumption) (by walk_at "my sub")) (by first | assumption | exact Rows2.mono (by assumption) (by walk_at "my sub")) (by assumption) (by assumption) (by assumption) (by assumption)) ?_); k_whole); intro h9 tk9 ex9 E9 vs9 c9 mE9 hI9 hfr9 F9 N9; (try dsimp only); (try k_fold))); (k_with "call ref" => ((k_here; (with_reducible show wpAny _ _ (call (Value.ref 126) _) _ _ _); k_dflt (refine Ctr.use9 (by k_asm) (by k_asm) (by k_asm) (by k_asm) (by k_asm) (by first | exact rfl | assumption) (by (first | exact room3 (by assumption) (by rfl) | exact room2 (by assumption) (by rfl) | exact room1 (by assumption) | exact Nat.le_of_ble_eq_true rfl | ktr_room)) (by first | (first | exact room3 (by assumption) (by rfl) | exact room2 (by assumption) (by rfl) | exact room1 (by assumption) | exact Nat.le_of_ble_eq_true rfl | ktr_units) | exact Nat.le_of_ble_eq_true rfl | (have hcL9 := cLine_is; (try simp only [units_under_make, units_in1, units_deeper, Around.mark_units, units_caller] at *); (try dsimp only [ktrTop] at *); omega)) (next_time_c _ _ _ _ _ (by first | assumption | exact DmpAt.mono (by assumption) (by walk_at "my sub")) (by first | assumption | exact Rows2.mono (by assumption) (by walk_at "my sub")) (by assumption) (by assumption) (by assumption) (by assumption)) ?_); k_whole); intro r9 n9 h9 tk9 F9 N9 P9; obtain ⟨e9, P9⟩ := P9; replace e9 := e9.symm; subst e9; (try dsimp only); (try k_fold))); (k_with "exec Assign cons ListComp" => ((k_here; lcg_calm; k_dflt (refine comp2_assign (by k_asm) (by rfl) (by with_unfolding_all rfl) (by with_unfolding_all rfl) (by decide) (by rfl) (by decide) (by rfl) (by rfl) (by rfl) (by decide) (by rfl) (by rfl) ?_ (by intro _; rfl) (by intro _ _; rfl))))); (k_with "Src2" => (refine Stop.mk ?_)); (k_with "Out2End" => (refine Stop.mk ?_)); (k_with "In2End" => (refine Stop.mk ?_)); (k_with "compareOp NotEq ref ref" => (refine Stop.mk ?_)))
  (unfold CtrL Ctr; k_fill; intro dp un gd cn cs a ccd cl outer A₀ base h₀ L m s0 Q E B F X N T hk hd hu hret; refine wpAny_call ?_; k_dflt (refine' code_defC ?k1 ?k2 ?k3 ?k4 ?k5 ?kA ?kF ?kK ?k6 ?k7 ?k8 ?k9 ?kB ?kD ?_ ?c2 ?c3 ?c4; (case kA => exact rfl); (case kF => exact rfl); (case kK => assumption); (case k1 => k_asm); (case k2 => k_asm); (case k3 => k_asm); (case k4 => k_asm); (case k5 => k_asm); (case k6 => k_is); (case k7 => k_is); (case k8 => (first | exact room3 (by assumption) (by rfl) | exact room2 (by assumption) (by rfl) | exact room1 (by assumption) | exact Nat.le_of_ble_eq_true rfl | ktr_room)); (case k9 => exact BindsTo.of_eq rfl); (case kB => exact rfl); (case kD => decide +kernel); (case c2 => exact rfl); (case c3 => exact rfl); (case c4 => exact rfl); k_whole; intro g' L' h' tk' cells' FG' F' N' Y' B' X' T' l1; k_cells Y'; (try simp only [List.cons_append, List.nil_append] at N'); (try dsimp only); (try k_fold)); refine e_never ?_)
  rename_i oM oN oA dM dN dA
  replace dM : oM.data = .cell (some (.int mv tm)) := dM
  replace dN : oN.data = .cell (some (.int now tn)) := dN
  replace dA : oA.data = .cell (some (.ref al)) := dA
  k_steps
  refine Stop.go ?_
  rename_i Tt hh1 FT NT lT
  refine ex4_6 (show ∃ base t1 t2 n9, News g' L' hh1 base ∧ (Tt, ({ cls := .type "tuple", data := .seq #[.int 1 t1, .int 2 t2] n9 } : Obj)) ∈ base ∧ (L' + 1 + 1 + 1, oM) ∈ base ∧ (L' + 1 + 1, oN) ∈ base ∧ (L' + 1, oA) ∈ base ∧ ∀ p ∈ news, p ∈ base from
    ⟨_, _, _, _, NT, .head _, .tail _ (.head _), .tail _ (.tail _ (.head _)), .tail _ (.tail _ (.tail _ (.head _))), fun p hp => .tail _ (.tail _ (.tail _ (.tail _ hp)))⟩) fun base t1 t2 n9 NB bT bM bN bA hbs => ?_
  clear NT lT
  have ln1 : (louts2 C q1 none now).length ≤ 2 := louts_len _ _ _ _
  have ln2 : (louts2 C none q2 now).length ≤ 2 := louts_len _ _ _ _
  refine ⟨Tt, #[.int 1 t1, .int 2 t2], n9, base, fun i ys nx => (∀ p ∈ base, p ∈ nx) ∧ DatAll nx ys ((((([louts2 C q1 none now, louts2 C none q2 now] : List (List (Int × Int))).take i).flatten).map (shiftP mv)).map pairD), rfl, rfl, FT, NB, fun i ys nx q => q.1 _ bT, ⟨fun _ h => h, .nil⟩, fun g9 => ⟨?_, ?_⟩⟩
  · intro ha9 tka
    rintro i ys nx v I oI C' oC D m₂ h8 tk8 E8 hv ⟨hbx, hdat⟩ hNs hx F8 N8 off8
    have hkk : ∃ kk tt dd dxx rr orr kvv qa qb, v = .int kk tt ∧ valueAt ka kk = some (.ref dd) ∧ DmpAt w news dd dxx c rr oc orr kc kvv top ∧ Rows2 news kvv qa qb ∧ RowOk now qa ∧ RowOk now qb ∧
        ((([louts2 C q1 none now, louts2 C none q2 now] : List (List (Int × Int))).take (i + 1)).flatten.map (shiftP mv) = (([louts2 C q1 none now, louts2 C none q2 now] : List (List (Int × Int))).take i).flatten.map (shiftP mv) ++ (louts2 C qa qb now).map (shiftP mv)) ∧
        ((([louts2 C q1 none now, louts2 C none q2 now] : List (List (Int × Int))).take i).flatten.map (shiftP mv)).length ≤ 4 := by
      match i, hv with
      | 0, hv => exact ⟨1, t1, d1, dx1, r1, or1, kv1, q1, none, (Option.some.inj hv).symm, ha1, D1, R1, k1, trivial, by simp, by simp⟩
      | 1, hv => exact ⟨2, t2, d2, dx2, r2, or2, kv2, none, q2, (Option.some.inj hv).symm, ha2, D2, R2, trivial, k2, by simp, by simp; omega⟩
      | i + 2, hv => simp at hv
    refine ex9_8 hkk fun kk tt dd dxx rr orr kvv qa qb e7 hka DD RR kqa kqb hR hlen => ?_
    clear hkk; subst e7
    generalize (([louts2 C q1 none now, louts2 C none q2 now] : List (List (Int × Int))).take i).flatten.map (shiftP mv) = R at hdat hR hlen
    have hn8 : ∀ p ∈ news, p ∈ ((I, oI) :: (C', oC) :: (D, LCg.lst ys) :: nx : Led) := fun p hp => .tail _ (.tail _ (.tail _ (hbx p (hbs p hp))))
    have hb8 : ∀ p ∈ base, p ∈ ((I, oI) :: (C', oC) :: (D, LCg.lst ys) :: nx : Led) := fun p hp => .tail _ (.tail _ (.tail _ (hbx p hp)))
    have mC : (C', oC) ∈ ((I, oI) :: (C', oC) :: (D, LCg.lst ys) :: nx : Led) := .tail _ (.head _)
    generalize hnw : ((I, oI) :: (C', oC) :: (D, LCg.lst ys) :: nx : Led) = nw at N8 hn8 hb8 mC
    have mN := hb8 _ bN
    have mA := hb8 _ bA
    have mal := hn8 _ hal
    have D8 := DD.mono hn8
    have R8 := RR.mono hn8
    have md := D8.hd
    refine ex7_1 (D8.hx) fun x11 y11 x12 y12 x13 y13 y14 mx => ?_
    (try dsimp only)
    k_steps
    refine Stop.go ?_
    have hI' : DatAll ex9 vs9 ((louts2 C qa qb now).map pairD) := hI9
    have hl9 : (louts2 C qa qb now).length ≤ 2 := louts_len _ _ _ _
    have hst : AlK base ex9 E9 (W.listOf vs9.toArray c9) (R ++ ((louts2 C qa qb now).take 0).map (shiftP mv)) (ex9 ++ nx) ys := by
      refine ⟨fun p hp => List.mem_append_right _ (hbx p hp), fun p hp => List.mem_append_left _ hp, List.mem_append_left _ mE9, ?_⟩
      rw [List.take_zero, List.map_nil, List.append_nil]
      exact hdat.mono fun p hp => List.mem_append_right _ hp
    subst hnw
    refine ⟨E9, vs9, c9, ex9 ++ nx, _, _, fun j zs nz => AlK base ex9 E9 (W.listOf vs9.toArray c9) (R ++ ((louts2 C qa qb now).take j).map (shiftP mv)) nz zs, rfl, rfl, F9, cb_drop N9 ?_, off3_append off8 hfr9, hst, fun j zs nz K => ⟨K.src, ?_⟩, ?_, ?_⟩
    · intro p hp
      rcases List.mem_cons.mp hp with rfl | hp
      · exact List.mem_append_right _ (.head _)
      · rcases List.mem_cons.mp hp with rfl | hp
        · exact List.mem_append_right _ (.tail _ (.head _))
        · rcases List.mem_cons.mp hp with rfl | hp
          · exact List.mem_append_right _ (.tail _ (.tail _ (.head _)))
          · exact (List.mem_append.mp hp).elim (fun h => List.mem_append_left _ h) fun h => List.mem_append_right _ (.tail _ (.tail _ (.tail _ h)))
    · have := datLen K.dat
      have h5 := List.length_take_le j (louts2 C qa qb now)
      have h6 := List.length_take_le' j (louts2 C qa qb now)
      rw [List.length_append, List.length_map] at this
      rw [sizeLine_eq]; omega
    · clear hst N9 F9 N8 F8 hn8 hb8 mC mN mA mal D8 R8 md mx
      intro hb tkb j zs nz v hv K
      refine ex5_3 (dat_item hI' hv) fun p t n u1 u2 hp e7 ht => ?_; subst e7
      refine ⟨t, _, _, _, n, rfl, K.xs _ ht, rfl, rfl, ?_⟩
      intro I2 oI2 oC2 m3 h7 tk7 E7 hNs7 hw hwh F7 N7 off7 offI7
      have e8 := take_next hp
      have mM : (L' + 1 + 1 + 1, oM) ∈ ((I2, oI2) :: (I, oI) :: (C', oC2) :: (D, LCg.lst zs) :: nz : Led) := .tail _ (.tail _ (.tail _ (.tail _ (K.bs _ bM))))
      have mC : (C', oC2) ∈ ((I2, oI2) :: (I, oI) :: (C', oC2) :: (D, LCg.lst zs) :: nz : Led) := .tail _ (.tail _ (.head _))
      generalize hnw : ((I2, oI2) :: (I, oI) :: (C', oC2) :: (D, LCg.lst zs) :: nz : Led) = nw at N7 mM mC
      (try dsimp only)
      k_steps
      refine Stop.go ?_
      (rename Fr _ _ _ _ => fF)
      (rename News _ _ _ _ => fN)
      (rename ∀ p, p ∈ nw → p.1 < _ => ltT)
      subst hnw
      refine ⟨_, _, _, rfl, fF, cb_drop fN (in2_sub _), off3_cons off7 (ltT _ (.tail _ (.head _))) (ltT _ (.tail _ (.tail _ (.head _)))) (ltT _ (.tail _ (.tail _ (.tail _ (.head _))))), ?_, ?_⟩
      · intro p8 hp8
        rcases List.mem_cons.mp hp8 with rfl | hp8
        · exact Nat.ne_of_gt (ltT _ (.head _))
        · exact offI7 p8 hp8
      · have e9 : R ++ ((louts2 C qa qb now).take (j + 1)).map (shiftP mv) = (R ++ ((louts2 C qa qb now).take j).map (shiftP mv)) ++ [(p.1, p.2 + mv)] := by rw [e8, List.map_append, List.append_assoc]; rfl
        show AlK _ _ _ _ (R ++ ((louts2 C qa qb now).take (j + 1)).map (shiftP mv)) _ _
        rw [e9]
        exact K.step
    · intro zs nz K
      have h5 := K.dat
      rw [datLen hI', List.take_length, ← hR] at h5
      exact ⟨K.bs, h5⟩
  · rintro ys nx ⟨hbx, hdat⟩
    have hdat' : DatAll nx ys (((louts2 C q1 none now ++ louts2 C none q2 now).map (shiftP mv)).map pairD) := by simpa using hdat
    clear hdat FT NB
    have kn : RowOk now none := trivial
    have mJ := (D3.mono fun p hp => hbx p (hbs p hp)).hd
    have hn8 : ∀ p ∈ news, p ∈ nx := fun p hp => hbx p (hbs p hp)
    have mN := hbx _ bN
    have mA := hbx _ bA
    have mM := hbx _ bM
    have mal := hn8 _ hal
    have E1 := D1.mono hn8
    have E2 := D2.mono hn8
    have E3 := D3.mono hn8
    have G1 := R1.mono hn8
    have G2 := R2.mono hn8
    have G3 := R3.mono hn8
    have md1 := E1.hd
    refine ex7_1 (E1.hx) fun x11 y11 x12 y12 x13 y13 y14 mx1 => ?_
    have md2 := E2.hd
    refine ex7_1 (E2.hx) fun x21 y21 x22 y22 x23 y23 y24 mx2 => ?_
    have md3 := E3.hd
    refine ex7_1 (E3.hx) fun x31 y31 x32 y32 x33 y33 y34 mx3 => ?_
    (try dsimp only)
    k_steps
    refine Stop.go ?_
    have hI' : DatAll ex9 vs9 ((louts2 C q3 q4 (now + mv)).map pairD) := hI9
    rw [hE] at hI'
    (rename News _ _ _ _ => fN)
    refine kqd_ne fN (List.mem_append_left _ mE9) rfl rfl hI' (fun p hp => List.mem_append_left _ hp) (List.mem_append_right _ (.head _)) rfl rfl hdat' (fun p hp => List.mem_append_right _ (.tail _ hp)) pairs_ok pairs_ok (by first | (first | exact room3 (by assumption) (by rfl) | exact room2 (by assumption) (by rfl) | exact room1 (by assumption) | exact Nat.le_of_ble_eq_true rfl | ktr_units) | exact Nat.le_of_ble_eq_true rfl) ?_
    simp only [decide_true, Bool.not_true]
    clear hI9 hI' hdat'
    (w_top off; k_with_none; (k_with "my updF" => (first | assumption | exact UpdF.tail (my_ne (by assumption) (by assumption)) (by assumption))); (k_with "my upd" => (exact updF_upd (by assumption) _)); (k_with "my mem" => (first | exact updF_new (by assumption) _ | exact updF_old (by assumption) (by assumption) (by assumption) | (refine List.mem_cons_of_mem _ ?_; k_mem) | (refine List.mem_append_right _ ?_; k_mem))); (k_with "my islist" => (exact News.isList (by k_asm) (by k_mem))); (k_with "my fact" => (first | assumption | trivial | omega | (refine ⟨?_, ?_⟩ <;> omega) | ((try dsimp only); first | assumption | omega | l_fact))); (k_with "compareOp NotIn int ref" => ((k_here; k_dflt (refine my_notin (by k_asm) (by k_mem) (by k_asm) (by k_asm) _ (by assumption) ?_); (try dsimp only [Bool.not_true, Bool.not_false])))); (k_with "compareOp In int ref" => ((k_here; k_dflt (refine my_in (by k_asm) (by k_mem) (by k_asm) (by k_asm) _ (by assumption) ?_); (try dsimp only)))); (k_with "subscriptTail" => ((k_here; k_dflt (first
  | ((with_reducible show wpAny _ _ (subscriptTail _ _ (Value.ref _) (Value.str _ _)) _ _ _); refine kda_item (knd := PySem.strKind _ _) (by k_asm) (by k_mem) (by k_asm) (strKind_is _ _ _ _) (by assumption) ?_; (try dsimp only))
  | ((with_reducible show wpAny _ _ (subscriptTail _ _ (Value.ref _) (Value.int _ _)) _ _ _); refine kda_item (knd := PySem.intKind _ _) (by k_asm) (by k_mem) (by k_asm) (intKind_is _ _ _ _) (by assumption) ?_; (try dsimp only)))))); (k_with "my sub" => (intro p9 hp9; repeat (first | exact hp9 | assumption | refine List.mem_cons_of_mem _ ?_ | refine List.mem_append_right _ ?_))); (k_with "call ref" => ((k_here; (with_reducible show wpAny _ _ (call (Value.ref 126) _) _ _ _); k_dflt (refine Ctr.use9 (by k_asm) (by k_asm) (by k_asm) (by k_asm) (by k_asm) (by first | exact rfl | assumption) (by (first | exact room3 (by assumption) (by rfl) | exact room2 (by assumption) (by rfl) | exact room1 (by assumption) | exact Nat.le_of_ble_eq_true rfl | ktr_room)) (by first | (first | exact room3 (by assumption) (by rfl) | exact room2 (by assumption) (by rfl) | exact room1 (by assumption) | exact Nat.le_of_ble_eq_true rfl | ktr_units) | exact Nat.le_of_ble_eq_true rfl | (have hcL9 := cLine_is; (try simp only [units_under_make, units_in1, units_deeper, Around.mark_units, units_caller] at *); (try dsimp only [ktrTop] at *); omega)) (next_time_c _ _ _ _ _ (by first | assumption | exact DmpAt.mono (by assumption) (by walk_at "my sub")) (by first | assumption | exact Rows2.mono (by assumption) (by walk_at "my sub")) (by assumption) (by assumption) (by assumption) (by assumption)) ?_); k_whole); intro r9 n9 h9 tk9 F9 N9 P9; obtain ⟨e9, P9⟩ := P9; replace e9 := e9.symm; subst e9; (try dsimp only); (try k_fold))); (k_with "call ref" => ((k_here; (with_reducible show wpAny _ _ (call (Value.ref 95) _) _ _ _); k_dflt (refine Ctr.cInt (by k_asm) (by k_asm) (by k_asm) (by k_asm) (by k_asm) (by first | exact rfl | assumption) (by (first | exact room3 (by assumption) (by rfl) | exact room2 (by assumption) (by rfl) | exact room1 (by assumption) | exact Nat.le_of_ble_eq_true rfl | ktr_room)) (by first | (first | exact room3 (by assumption) (by rfl) | exact room2 (by assumption) (by rfl) | exact room1 (by assumption) | exact Nat.le_of_ble_eq_true rfl | ktr_units) | exact Nat.le_of_ble_eq_true rfl | (have hcL9 := cLine_is; (try simp only [units_under_make, units_in1, units_deeper, Around.mark_units, units_caller] at *); (try dsimp only [ktrTop] at *); omega)) (penalty_c _ _ _ _ _ _ (by first | assumption | exact DmpAt.mono (by assumption) (by walk_at "my sub")) (by assumption) (by assumption) (by first | assumption | exact RowAt.mono (by assumption) (by walk_at "my sub")) (by assumption)) ?_); k_whole); intro h9 tk9 t9 F9 N9; (try dsimp only); (try k_fold))); (k_with "exec Assign cons ListComp" => ((k_here; lct_look; lcg_calm; k_dflt (refine Assign_ListComp_TT (by k_asm) (by rfl) (by with_unfolding_all rfl) (by with_unfolding_all rfl) (by decide) (by rfl) (by decide) (by rfl) (by rfl) (by rfl) ?_)))); (k_with "SrcTT" => (refine Stop.mk ?_)); (k_with "CompEnd" => (refine Stop.mk ?_)))
    k_steps
    refine Stop.go ?_
    rename_i ra h9a tk9a Pa D5 h5 F5 N5 l5
    refine ex2_3 (show ∃ base5 n5, News g' L' h5 base5 ∧ (D5, ({ cls := .type "tuple", data := .seq #[ra, r9] n5 } : Obj)) ∈ base5 ∧ ∀ p ∈ nx, p ∈ base5 from ⟨_, _, N5, .head _, fun p hp => .tail _ (List.mem_append_right _ (.tail _ hp))⟩) fun base5 n5 B5 m5 hs5 => ?_
    clear N5 l5
    refine ⟨D5, #[ra, r9], n5, base5, rfl, rfl, F5, B5, m5, by show 2 ≤ sizeLine; rw [sizeLine_eq]; omega, ?_⟩
    rintro s₂ ⟨g5, rfl⟩
    refine comp_ind (n := 2) (fun i zs nz => nz = base5 ∧ zs = ([ra, r9].take i).filter notNone) ?_ ?_ _ 0 [] _ (Nat.zero_add _) ⟨rfl, rfl⟩
    · clear F5 B5
      rintro i zs nz hi ⟨rfl, rfl⟩ v I oI C' oC D' m₂ h8 tk8 E8 hv hNs hx F8 N8 off8
      have hv' : ([ra, r9] : List Value)[i]? = some v := by simpa using hv
      have e8 := take_next hv'
      have hform : v = Value.none ∨ ∃ a t, v = Value.int a t := by
        rcases List.mem_cons.mp (List.mem_of_getElem? hv') with rfl | h
        · exact opt_form Pa
        · rcases List.mem_cons.mp h with rfl | h
          · exact opt_form P9
          · cases h
      (try dsimp only)
      rcases hform with rfl | ⟨a, t, rfl⟩
      · k_steps
        refine Stop.go ?_
        refine compEnd_skip (by k_asm) (by k_asm) off8 m5 ⟨rfl, ?_⟩
        rw [e8, List.filter_append]; exact (List.append_nil _).symm
      · k_steps
        refine Stop.go ?_
        refine compEnd_skip (by k_asm) (by k_asm) off8 m5 ⟨rfl, ?_⟩
        rw [e8, List.filter_append]; rfl
    · rintro zs nz ⟨rfl, hz⟩
      replace hz := hz.symm
      (w_top off; k_with_none; (k_with "my updF" => (first | assumption | exact UpdF.tail (my_ne (by assumption) (by assumption)) (by assumption))); (k_with "my upd" => (exact updF_upd (by assumption) _)); (k_with "my mem" => (first | exact updF_new (by assumption) _ | exact updF_old (by assumption) (by assumption) (by assumption) | (refine List.mem_cons_of_mem _ ?_; k_mem) | (refine List.mem_append_right _ ?_; k_mem))); (k_with "my islist" => (exact News.isList (by k_asm) (by k_mem))); (k_with "my fact" => (first | assumption | trivial | omega | (refine ⟨?_, ?_⟩ <;> omega) | ((try dsimp only); first | assumption | omega | l_fact))); (k_with "compareOp NotIn int ref" => ((k_here; k_dflt (refine my_notin (by k_asm) (by k_mem) (by k_asm) (by k_asm) _ (by assumption) ?_); (try dsimp only [Bool.not_true, Bool.not_false])))); (k_with "compareOp In int ref" => ((k_here; k_dflt (refine my_in (by k_asm) (by k_mem) (by k_asm) (by k_asm) _ (by assumption) ?_); (try dsimp only)))); (k_with "subscriptTail" => ((k_here; k_dflt (first
  | ((with_reducible show wpAny _ _ (subscriptTail _ _ (Value.ref _) (Value.str _ _)) _ _ _); refine kda_item (knd := PySem.strKind _ _) (by k_asm) (by k_mem) (by k_asm) (strKind_is _ _ _ _) (by assumption) ?_; (try dsimp only))
  | ((with_reducible show wpAny _ _ (subscriptTail _ _ (Value.ref _) (Value.int _ _)) _ _ _); refine kda_item (knd := PySem.intKind _ _) (by k_asm) (by k_mem) (by k_asm) (intKind_is _ _ _ _) (by assumption) ?_; (try dsimp only)))))); (k_with "my sub" => (intro p9 hp9; repeat (first | exact hp9 | assumption | refine List.mem_cons_of_mem _ ?_ | refine List.mem_append_right _ ?_))); (k_with "call ref" => ((k_here; (with_reducible show wpAny _ _ (call (Value.ref 95) _) _ _ _); k_dflt (refine Ctr.cInt (by k_asm) (by k_asm) (by k_asm) (by k_asm) (by k_asm) (by first | exact rfl | assumption) (by (first | exact room3 (by assumption) (by rfl) | exact room2 (by assumption) (by rfl) | exact room1 (by assumption) | exact Nat.le_of_ble_eq_true rfl | ktr_room)) (by first | (first | exact room3 (by assumption) (by rfl) | exact room2 (by assumption) (by rfl) | exact room1 (by assumption) | exact Nat.le_of_ble_eq_true rfl | ktr_units) | exact Nat.le_of_ble_eq_true rfl | (have hcL9 := cLine_is; (try simp only [units_under_make, units_in1, units_deeper, Around.mark_units, units_caller] at *); (try dsimp only [ktrTop] at *); omega)) (penalty_c _ _ _ _ _ _ (by first | assumption | exact DmpAt.mono (by assumption) (by walk_at "my sub")) (by assumption) (by assumption) (by first | assumption | exact RowAt.mono (by assumption) (by walk_at "my sub")) (by assumption)) ?_); k_whole); intro h9 tk9 t9 F9 N9; (try dsimp only); (try k_fold))); (k_with "exec For Name Tuple cons nil" => ((k_here; (rename Fr _ _ _ _ => lF9); (with_unfolding_all refine For_invVF lF9 (by exact rfl) (by exact rfl) ?_); k_whole))); (k_with "pyIter ref" => (refine Stop.mk ?_)); (k_with "exec If" => (refine Stop.mk ?_)))
      have a1 := ha.half
      have o1 : 1 ≤ C.half ∧ C.half ≤ 5 := ⟨by have := hC.half; omega, hC.half.2⟩
      have hn9 : ∀ p ∈ news, p ∈ nz := fun p hp => hs5 p (hn8 p hp)
      clear mJ hn8 mN mA mM mal E1 E2 E3 G1 G2 G3 md1 md2 md3 mx1 mx2 mx3
      have E1 := D1.mono hn9
      have E2 := D2.mono hn9
      have E3 := D3.mono hn9
      have G3 := R3.mono hn9
      have g1 := R1.r1.mono hn9
      have g2 := R1.r2.mono hn9
      have g3 := R2.r1.mono hn9
      have g4 := R2.r2.mono hn9
      have g5' := G3.r1
      have g6 := G3.r2
      have md1 := E1.hd
      refine ex7_1 (E1.hx) fun x11 y11 x12 y12 x13 y13 y14 mx1 => ?_
      have md2 := E2.hd
      refine ex7_1 (E2.hx) fun x21 y21 x22 y22 x23 y23 y24 mx2 => ?_
      have md3 := E3.hd
      refine ex7_1 (E3.hx) fun x31 y31 x32 y32 x33 y33 y34 mx3 => ?_
      have mN := hs5 _ (hbx _ bN)
      have mA := hs5 _ (hbx _ bA)
      have mM := hs5 _ (hbx _ bM)
      have mal := hn9 _ hal
      k_steps
      refine Stop.go ?_
      (rename Fr _ _ _ _ => lF)
      (rename News _ _ _ _ => lN)
      obtain ⟨mm, hmm, lF⟩ := fr_abs lF
      refine wpAny_mono (Q := fun f s' => f = Flow.next ∧ ∃ h tk, s' = { heap := h, gens := s0.gens, drawn := s0.drawn, toks := tk, os := s0.os } ∧ Fr g' L' h mm ∧ News g' L' h nz) ?_ (fun f s' q => ?_) fun _ _ e => e
      · (w_top off; k_with_none; (k_with "my updF" => (first | assumption | exact UpdF.tail (my_ne (by assumption) (by assumption)) (by assumption))); (k_with "my upd" => (exact updF_upd (by assumption) _)); (k_with "my mem" => (first | exact updF_new (by assumption) _ | exact updF_old (by assumption) (by assumption) (by assumption) | (refine List.mem_cons_of_mem _ ?_; k_mem) | (refine List.mem_append_right _ ?_; k_mem))); (k_with "my islist" => (exact News.isList (by k_asm) (by k_mem))); (k_with "my fact" => (first | assumption | trivial | omega | (refine ⟨?_, ?_⟩ <;> omega) | ((try dsimp only); first | assumption | omega | l_fact))); (k_with "compareOp NotIn int ref" => ((k_here; k_dflt (refine my_notin (by k_asm) (by k_mem) (by k_asm) (by k_asm) _ (by assumption) ?_); (try dsimp only [Bool.not_true, Bool.not_false])))); (k_with "compareOp In int ref" => ((k_here; k_dflt (refine my_in (by k_asm) (by k_mem) (by k_asm) (by k_asm) _ (by assumption) ?_); (try dsimp only)))); (k_with "subscriptTail" => ((k_here; k_dflt (first
  | ((with_reducible show wpAny _ _ (subscriptTail _ _ (Value.ref _) (Value.str _ _)) _ _ _); refine kda_item (knd := PySem.strKind _ _) (by k_asm) (by k_mem) (by k_asm) (strKind_is _ _ _ _) (by assumption) ?_; (try dsimp only))
  | ((with_reducible show wpAny _ _ (subscriptTail _ _ (Value.ref _) (Value.int _ _)) _ _ _); refine kda_item (knd := PySem.intKind _ _) (by k_asm) (by k_mem) (by k_asm) (intKind_is _ _ _ _) (by assumption) ?_; (try dsimp only)))))); (k_with "my sub" => (intro p9 hp9; repeat (first | exact hp9 | assumption | refine List.mem_cons_of_mem _ ?_ | refine List.mem_append_right _ ?_))); (k_with "call ref" => ((k_here; (with_reducible show wpAny _ _ (call (Value.ref 126) _) _ _ _); k_dflt (refine Ctr.use9 (by k_asm) (by k_asm) (by k_asm) (by k_asm) (by k_asm) (by first | exact rfl | assumption) (by (first | exact room3 (by assumption) (by rfl) | exact room2 (by assumption) (by rfl) | exact room1 (by assumption) | exact Nat.le_of_ble_eq_true rfl | ktr_room)) (by first | (first | exact room3 (by assumption) (by rfl) | exact room2 (by assumption) (by rfl) | exact room1 (by assumption) | exact Nat.le_of_ble_eq_true rfl | ktr_units) | exact Nat.le_of_ble_eq_true rfl | (have hcL9 := cLine_is; (try simp only [units_under_make, units_in1, units_deeper, Around.mark_units, units_caller] at *); (try dsimp only [ktrTop] at *); omega)) (next_time_c _ _ _ _ _ (by first | assumption | exact DmpAt.mono (by assumption) (by walk_at "my sub")) (by first | assumption | exact Rows2.mono (by assumption) (by walk_at "my sub")) (by assumption) (by assumption) (by assumption) (by assumption)) ?_); k_whole); intro r9 n9 h9 tk9 F9 N9 P9; obtain ⟨e9, P9⟩ := P9; replace e9 := e9.symm; subst e9; rw [hm3] at P9; (first | (obtain ⟨t9, e8⟩ := P9; subst e8) | (have e8 : _ = Value.none := P9; subst e8; clear P9)); (try dsimp only); (try k_fold))))
        subst hmm
        rcases louts2_left C q1 now with f1 | ⟨a, f1⟩ <;> rcases louts2_right C q2 now with f2 | ⟨b, f2⟩
        · refine ex0_3 (show minO ((louts2 C q1 none now).map (·.2)) = none ∧ minO ((louts2 C none q2 now).map (·.2)) = none ∧ minO ((louts2 C q3 q4 (now + mv)).map (·.2)) = none from mins f1 f2 hE) fun hm1 hm2 hm3 => ?_
          rw [hm1] at Pa
          rw [hm2] at P9
          have ea : ra = Value.none := Pa; subst ea
          have eb : r9 = Value.none := P9; subst eb
          obtain rfl : [] = zs := hz
          (try dsimp only)
          k_steps
          all_goals first
            | (exfalso; omega)
            | (exfalso; rename decide _ = true => hx; revert hx; simp; done)
            | ((rename Fr _ _ _ _ => fF); exact fF)
            | ((rename News _ _ _ _ => fN); exact cb_drop fN (by walk_at "my sub"))
            | ((rename Fr _ _ _ _ => fF); (rename News _ _ _ _ => fN); exact ⟨rfl, _, _, rfl, fF, cb_drop fN (by walk_at "my sub")⟩)
        · refine ex0_3 (show minO ((louts2 C q1 none now).map (·.2)) = none ∧ minO ((louts2 C none q2 now).map (·.2)) = some b ∧ minO ((louts2 C q3 q4 (now + mv)).map (·.2)) = some (b + mv) from mins f1 f2 hE) fun hm1 hm2 hm3 => ?_
          rw [hm1] at Pa
          rw [hm2] at P9
          have ea : ra = Value.none := Pa; subst ea
          obtain ⟨tb, eb⟩ := P9; subst eb
          obtain rfl : [Value.int b tb] = zs := hz
          (try dsimp only)
          k_steps
          all_goals first
            | (exfalso; omega)
            | (exfalso; rename decide _ = true => hx; revert hx; simp; done)
            | ((rename Fr _ _ _ _ => fF); exact fF)
            | ((rename News _ _ _ _ => fN); exact cb_drop fN (by walk_at "my sub"))
            | ((rename Fr _ _ _ _ => fF); (rename News _ _ _ _ => fN); exact ⟨rfl, _, _, rfl, fF, cb_drop fN (by walk_at "my sub")⟩)
        · refine ex0_3 (show minO ((louts2 C q1 none now).map (·.2)) = some a ∧ minO ((louts2 C none q2 now).map (·.2)) = none ∧ minO ((louts2 C q3 q4 (now + mv)).map (·.2)) = some (a + mv) from mins f1 f2 hE) fun hm1 hm2 hm3 => ?_
          rw [hm1] at Pa
          rw [hm2] at P9
          obtain ⟨ta, ea⟩ := Pa; subst ea
          have eb : r9 = Value.none := P9; subst eb
          obtain rfl : [Value.int a ta] = zs := hz
          (try dsimp only)
          k_steps
          all_goals first
            | (exfalso; omega)
            | (exfalso; rename decide _ = true => hx; revert hx; simp; done)
            | ((rename Fr _ _ _ _ => fF); exact fF)
            | ((rename News _ _ _ _ => fN); exact cb_drop fN (by walk_at "my sub"))
            | ((rename Fr _ _ _ _ => fF); (rename News _ _ _ _ => fN); exact ⟨rfl, _, _, rfl, fF, cb_drop fN (by walk_at "my sub")⟩)
        · refine ex0_3 (show minO ((louts2 C q1 none now).map (·.2)) = some a ∧ minO ((louts2 C none q2 now).map (·.2)) = some b ∧ minO ((louts2 C q3 q4 (now + mv)).map (·.2)) = some (min (a + mv) (b + mv)) from mins f1 f2 hE) fun hm1 hm2 hm3 => ?_
          rw [hm1] at Pa
          rw [hm2] at P9
          obtain ⟨ta, ea⟩ := Pa; subst ea
          obtain ⟨tb, eb⟩ := P9; subst eb
          obtain rfl : [Value.int a ta, Value.int b tb] = zs := hz
          (try dsimp only)
          k_steps
          all_goals first
            | (exfalso; omega)
            | (exfalso; rename decide _ = true => hx; revert hx; simp; done)
            | ((rename Fr _ _ _ _ => fF); exact fF)
            | ((rename News _ _ _ _ => fN); exact cb_drop fN (by walk_at "my sub"))
            | ((rename Fr _ _ _ _ => fF); (rename News _ _ _ _ => fN); exact ⟨rfl, _, _, rfl, fF, cb_drop fN (by walk_at "my sub")⟩)
      · (w_top off; k_with_none; (k_with "my updF" => (first | assumption | exact UpdF.tail (my_ne (by assumption) (by assumption)) (by assumption))); (k_with "my upd" => (exact updF_upd (by assumption) _)); (k_with "my mem" => (first | exact updF_new (by assumption) _ | exact updF_old (by assumption) (by assumption) (by assumption) | (refine List.mem_cons_of_mem _ ?_; k_mem) | (refine List.mem_append_right _ ?_; k_mem))); (k_with "my islist" => (exact News.isList (by k_asm) (by k_mem))); (k_with "my fact" => (first | assumption | trivial | omega | (refine ⟨?_, ?_⟩ <;> omega) | ((try dsimp only); first | assumption | omega | l_fact))); (k_with "compareOp NotIn int ref" => ((k_here; k_dflt (refine my_notin (by k_asm) (by k_mem) (by k_asm) (by k_asm) _ (by assumption) ?_); (try dsimp only [Bool.not_true, Bool.not_false])))); (k_with "compareOp In int ref" => ((k_here; k_dflt (refine my_in (by k_asm) (by k_mem) (by k_asm) (by k_asm) _ (by assumption) ?_); (try dsimp only)))); (k_with "subscriptTail" => ((k_here; k_dflt (first
  | ((with_reducible show wpAny _ _ (subscriptTail _ _ (Value.ref _) (Value.str _ _)) _ _ _); refine kda_item (knd := PySem.strKind _ _) (by k_asm) (by k_mem) (by k_asm) (strKind_is _ _ _ _) (by assumption) ?_; (try dsimp only))
  | ((with_reducible show wpAny _ _ (subscriptTail _ _ (Value.ref _) (Value.int _ _)) _ _ _); refine kda_item (knd := PySem.intKind _ _) (by k_asm) (by k_mem) (by k_asm) (intKind_is _ _ _ _) (by assumption) ?_; (try dsimp only)))))); (k_with "my sub" => (intro p9 hp9; repeat (first | exact hp9 | assumption | refine List.mem_cons_of_mem _ ?_ | refine List.mem_append_right _ ?_))); (k_with "call ref" => ((k_here; (with_reducible show wpAny _ _ (call (Value.ref 95) _) _ _ _); k_dflt (refine Ctr.cInt (by k_asm) (by k_asm) (by k_asm) (by k_asm) (by k_asm) (by first | exact rfl | assumption) (by (first | exact room3 (by assumption) (by rfl) | exact room2 (by assumption) (by rfl) | exact room1 (by assumption) | exact Nat.le_of_ble_eq_true rfl | ktr_room)) (by first | (first | exact room3 (by assumption) (by rfl) | exact room2 (by assumption) (by rfl) | exact room1 (by assumption) | exact Nat.le_of_ble_eq_true rfl | ktr_units) | exact Nat.le_of_ble_eq_true rfl | (have hcL9 := cLine_is; (try simp only [units_under_make, units_in1, units_deeper, Around.mark_units, units_caller] at *); (try dsimp only [ktrTop] at *); omega)) (penalty_c _ _ _ _ _ _ (by first | assumption | exact DmpAt.mono (by assumption) (by walk_at "my sub")) (by assumption) (by assumption) (by first | assumption | exact RowAt.mono (by assumption) (by walk_at "my sub")) (by assumption)) ?_); k_whole); intro h9 tk9 t9 F9 N9; (try dsimp only); (try k_fold))); (k_with "exec For Name Tuple cons nil" => ((k_here; (rename Fr _ _ _ _ => lF9); (with_unfolding_all refine For_invVF lF9 (by exact rfl) (by exact rfl) ?_); k_whole))); (k_with "pyIter ref" => (refine Stop.mk ?_)))
        refine ex0_2 q fun e7 q2 => ?_
        refine ex2_3 q2 fun h7 tk7 e8 F7 N7 => ?_
        clear q q2; subst e7; subst e8
        subst hmm
        clear lF lN
        (try dsimp only)
        k_steps
        refine Stop.go ?_
        (rename Fr _ _ _ _ => lF)
        (rename News _ _ _ _ => lN)
        refine my_tup_ro rfl (.head _) lF lN ?_ ?_
        · clear lF lN E1 E2 E3 G3 g1 g2 g3 g4 g5' g6 md1 md2 md3 mx1 mx2 mx3 mN mA mM mal
          intro i v h8 tk8 nw hv hsub F8 N8
          have hz : ∀ p ∈ news, p ∈ nw := fun p hp => hsub p (.tail _ (hn9 p hp))
          have mN := hsub _ (.tail _ (hs5 _ (hbx _ bN)))
          have mA := hsub _ (.tail _ (hs5 _ (hbx _ bA)))
          have mM := hsub _ (.tail _ (hs5 _ (hbx _ bM)))
          have mal := hz _ hal
          have E1 := D1.mono hz
          have E2 := D2.mono hz
          have E3 := D3.mono hz
          have G3 := R3.mono hz
          have g1 := R1.r1.mono hz
          have g2 := R1.r2.mono hz
          have g3 := R2.r1.mono hz
          have g4 := R2.r2.mono hz
          have g5' := G3.r1
          have g6 := G3.r2
          have md1 := E1.hd
          refine ex7_1 (E1.hx) fun x11 y11 x12 y12 x13 y13 y14 mx1 => ?_
          have md2 := E2.hd
          refine ex7_1 (E2.hx) fun x21 y21 x22 y22 x23 y23 y24 mx2 => ?_
          have md3 := E3.hd
          refine ex7_1 (E3.hx) fun x31 y31 x32 y32 x33 y33 y34 mx3 => ?_
          have hv' : (∃ t, v = Value.int 1 t) ∨ ∃ t, v = Value.int 2 t := by
            match i, hv with
            | 0, h => exact .inl ⟨_, (Option.some.inj h).symm⟩
            | 1, h => exact .inr ⟨_, (Option.some.inj h).symm⟩
            | i + 2, h => simp at h
          have z0 : penR C.half none now = 0 := rfl
          (try dsimp only)
          rcases hv' with ⟨tv, rfl⟩ | ⟨tv, rfl⟩
          · k_steps
            all_goals first
              | exact ⟨_, _, _, rfl, by k_asm, by k_asm, fun z hz => if_neg hz⟩
              | (exfalso; omega)
              | (exfalso; simp_all; done)
          · k_steps
            all_goals first
              | exact ⟨_, _, _, rfl, by k_asm, by k_asm, fun z hz => if_neg hz⟩
              | (exfalso; omega)
              | (exfalso; simp_all; done)
        · clear lF lN
          intro u h8 tk8 F8 N8
          (try dsimp only)
          k_steps
          (rename Fr _ _ _ _ => fF)
          (rename News _ _ _ _ => fN)
          exact hret _ news _ _ fF (cb_drop fN fun p hp => .tail _ (hn9 p hp)) ⟨rfl, rfl⟩
noncomputable def ToldAt (kt : List (Int × Value)) (k : Int) : Option Int → Prop
  | none => valueAt kt k = none ∨ valueAt kt k = some .none
  | some v => ∃ t, valueAt kt k = some (.int v t)
section
variable {prog : Program} {w : World} {A : Around} {E : Value → Shared → Prop} {s : Shared} {h₀ : Heap} {L D : Addr} {news : Led} {b z : Int} {t u : Tok} {n : Nat} {Q : Value → Shared → Prop}
theorem ni_none (N : News h₀ L s.heap news) (hm : (D, ({ cls := .type "tuple", data := .seq #[.none, .int b t] n } : Obj)) ∈ news) (hu : A.units + 64 < cLine) (h : Q (.bool false) s) : wpAny (model prog w) A (compareOp .NotIn .none (.ref D)) Q E s :=
  SeqAt.notIn_tuple_reads (xs := [.none, .int b]) (d := .none) (Reads.tuple (N _ hm).1 rfl rfl (.cons .none (.cons (.int _ _) .nil))) .none rfl rfl (by simp [PyData.depthAll, PyData.depth]; omega) h
theorem ni_int (N : News h₀ L s.heap news) (hm : (D, ({ cls := .type "tuple", data := .seq #[.none, .int b t] n } : Obj)) ∈ news) (hu : A.units + 64 < cLine) (h : Q (.bool (!decide (b = z))) s) : wpAny (model prog w) A (compareOp .NotIn (.int z u) (.ref D)) Q E s :=
  SeqAt.notIn_tuple_reads (xs := [.none, .int b]) (d := .int z) (Reads.tuple (N _ hm).1 rfl rfl (.cons .none (.cons (.int _ _) .nil))) (.int _ _) rfl rfl (by simp [PyData.depthAll, PyData.depth]; omega) (by
    have e : ([PyData.none, PyData.int b].any fun y => PyData.eqv y (.int z)) = decide (b = z) := by by_cases c : b = z <;> simp [PyData.eqv, c]
    rw [e]; exact h)
end
theorem told_val {kt : List (Int × Value)} {k : Int} {T : Option Int} (h : ToldAt kt k T) : ∃ bv, (valueAt kt k).getD .none = bv ∧ ((T = none ∧ bv = Value.none) ∨ ∃ z t, T = some z ∧ bv = Value.int z t) := by
  cases T with
  | none =>
    refine ⟨.none, ?_, .inl ⟨rfl, rfl⟩⟩
    rcases h with h | h <;> rw [h] <;> rfl
  | some z =>
    obtain ⟨t, h⟩ := h
    exact ⟨.int z t, by rw [h]; rfl, .inr ⟨z, t, rfl, rfl⟩⟩
theorem reuse_none {C : Cfg} {row : Option Row} {now : Int} {res : Value} (ho : outR C.half C.reuse row now = false) (h : (outR C.half C.reuse row now = false ∧ res = .none) ∨ (outR C.half C.reuse row now = true ∧ ∃ q v t, row = some q ∧ Least q.fine C.reuse C.half v ∧ res = .int (q.since + v) t)) : res = .none := by
  rcases h with ⟨_, e⟩ | ⟨h, _⟩
  · exact e
  · rw [ho] at h; cases h
theorem reuse_some {C : Cfg} {q : Row} {now : Int} {res : Value} (ho : outR C.half C.reuse (some q) now = true) (h : (outR C.half C.reuse (some q) now = false ∧ res = .none) ∨ (outR C.half C.reuse (some q) now = true ∧ ∃ q' v t, some q = some q' ∧ Least q'.fine C.reuse C.half v ∧ res = .int (q'.since + v) t)) : ∃ v t, Least q.fine C.reuse C.half v ∧ res = .int (q.since + v) t := by
  rcases h with ⟨h, _⟩ | ⟨_, q', v, t, e, hl, e2⟩
  · rw [ho] at h; cases h
  · obtain rfl := Option.some.inj e
    exact ⟨v, t, hl, e2⟩
theorem out_when {C : Cfg} {q : Row} {v now : Int} (hC : CfgOk C) (ho : outR C.half C.reuse (some q) now = true) (hl : Least q.fine C.reuse C.half v) (hok : RowOk now (some q)) :
    now < q.since + v ∧ outR C.half C.reuse (some q) (q.since + v - 1) = true ∧ outR C.half C.reuse (some q) (q.since + v) = false := by
  have hh := hC.half
  obtain ⟨b1, b2, b3, b4⟩ := hok
  obtain ⟨l1, l2, l3, l4⟩ := hl
  obtain ⟨o1, o2⟩ := Bool.and_eq_true_iff.mp ho
  have g2 : C.reuse < dec q.fine (now - q.since) C.half := of_decide_eq_true o2
  have late : now - q.since < v := by
    refine Decidable.byContradiction fun c => ?_
    have := dec_anti (p := q.fine) (s := v) (s' := now - q.since) (h := C.half) b1 l1 (by omega) (by omega)
    omega
  refine ⟨by omega, ?_, ?_⟩
  · show (q.out && decide (C.reuse < dec q.fine (q.since + v - 1 - q.since) C.half)) = true
    rw [o1, Bool.true_and, show q.since + v - 1 - q.since = v - 1 by omega]
    exact decide_eq_true (l4 _ (by omega) (by omega))
  · show (q.out && decide (C.reuse < dec q.fine (q.since + v - q.since) C.half)) = false
    rw [show q.since + v - q.since = v by omega, decide_eq_false (by omega), Bool.and_false]
theorem time_right_c {w : World} {mean : ExcName → Option Value} {mg mb : Str → Option Value} {news : Led} {g : Obj → Led} {d dx c r bk to la : Addr} {oc orr obk oto ola : Obj} {kc kb : List (Str × Value)} {kvs kt kl : List (Int × Value)} {top : Int} (k now : Int) (C : Cfg) (row : Option Row) (T : Option Int) (tk tn : Tok)
    (D : DmpAt w news d dx c r oc orr kc kvs top) (hrow : RowAt news kvs k row) (ha : CfgAt kc C) (hC : CfgOk C) (hok : ∀ t, now ≤ t → t ≤ now + 200 → RowOk t row)
    (hbk : (bk, obk) ∈ news) (hbd : obk.IsDictOf (PySem.strKind Mine.XL.row.prog w) kb) (hb1 : valueAt kb (Str.ofString "told") = some (.ref to)) (hb2 : valueAt kb (Str.ofString "last") = some (.ref la))
    (U : UpdF to oto news g) (htd : oto.IsDictOf (PySem.intKind Mine.XL.row.prog w) kt) (hts : (to == sysModules) = false) (hT : ToldAt kt k T) (hsz : kt.length ≤ 100)
    (hla : (la, ola) ∈ news) (hld : ola.IsDictOf (PySem.intKind Mine.XL.row.prog w) kl)
    (hout : outR C.half C.reuse row now = true → ∃ q l tl, row = some q ∧ valueAt kl k = some (.int l tl) ∧ ∀ v, Least q.fine C.reuse C.half v → q.since + v ≤ l + C.most ∧ q.since + v ≤ now + 150 ∧ ∀ z, T = some z → z = q.since + v)
    (hin : outR C.half C.reuse row now = false → ∀ z, T = some z → z ≤ now) (n0 : d ≠ to) (n1 : dx ≠ to) (n2 : c ≠ to) (n3 : r ≠ to) (hn : 0 ≤ now ∧ now < 1000) :
    CtrL w mean mg mb 164 6 160 news [.ref d, .int k tk, .ref bk, .int now tn] (fun res news' => res = .bool true ∧ ((outR C.half C.reuse row now = false ∧ news' = news) ∨ (outR C.half C.reuse row now = true ∧ ∃ q v t o', row = some q ∧ Least q.fine C.reuse C.half v ∧ news' = g o' ∧ o'.IsDictOf (PySem.intKind Mine.XL.row.prog w) (stored kt k (.int (q.since + v) t))))) := by
  have D9 := D
  obtain ⟨hD, hX, hC', hCd, hR, hRd, hRs, hLen⟩ := D9
  refine ex7_1 (hX) fun x1 y1 x2 y2 x3 y3 y4 hX => ?_
  have a1 := ha.half
  have a3 := ha.reuse
  obtain ⟨th1, b1⟩ := ha.most
  have o1 : 1 ≤ C.half ∧ C.half ≤ 5 := ⟨by have := hC.half; omega, hC.half.2⟩
  have z1 := hok now (by omega) (by omega)
  have mt := updF_mem U
  have ct := dict_cls htd
  have hG : ∀ o', DmpAt w (g o') d dx c r oc orr kc kvs top := fun o' => D.keep (s := to) (o := oto) (fun p hp hne => updF_old U hp hne) n0 n1 n2 n3
  have hGR : ∀ o', RowAt (g o') kvs k row := fun o' => hrow.sub rfl fun p hp hc => updF_other U hp (by rw [hc, ct]; exact fun h => absurd (Value.type.inj h) (by decide))
  obtain ⟨bv, hbv, hT9⟩ := told_val hT
  cases ho : outR C.half C.reuse row now with
  | false =>
    (w_top off; k_with_none; (k_with "my updF" => (first | assumption | exact UpdF.tail (my_ne (by assumption) (by assumption)) (by assumption))); (k_with "my upd" => (exact updF_upd (by assumption) _)); (k_with "my mem" => (first | exact updF_new (by assumption) _ | exact updF_old (by assumption) (by assumption) (by assumption) | (refine List.mem_cons_of_mem _ ?_; k_mem) | (refine List.mem_append_right _ ?_; k_mem))); (k_with "my islist" => (exact News.isList (by k_asm) (by k_mem))); (k_with "my fact" => (first | assumption | trivial | omega | (refine ⟨?_, ?_⟩ <;> omega) | ((try dsimp only); first | assumption | omega | l_fact))); (k_with "compareOp In int ref" => ((k_here; k_dflt (refine my_in (by k_asm) (by k_mem) (by k_asm) (by k_asm) _ (by assumption) ?_); (try dsimp only)))); (k_with "subscriptTail" => ((k_here; k_dflt (first
  | ((with_reducible show wpAny _ _ (subscriptTail _ _ (Value.ref _) (Value.str _ _)) _ _ _); refine kda_item (knd := PySem.strKind _ _) (by k_asm) (by k_mem) (by k_asm) (strKind_is _ _ _ _) (by assumption) ?_; (try dsimp only))
  | ((with_reducible show wpAny _ _ (subscriptTail _ _ (Value.ref _) (Value.int _ _)) _ _ _); refine kda_item (knd := PySem.intKind _ _) (by k_asm) (by k_mem) (by k_asm) (intKind_is _ _ _ _) (by assumption) ?_; (try dsimp only)))))); (k_with "setItem ref int" => ((k_here; (with_reducible show wpAny _ _ (setItem (Value.ref _) (Value.int _ _) (Value.ref _)) _ _ _); k_dflt (refine kda_set (knd := PySem.intKind _ _) (by k_asm) (by k_asm) (by k_updF) (by k_asm) (intKind_is _ _ _ _) (by rw [sizeLine_eq]; omega) ?_)); intro h9 o9 F9 N9 hd9; (try dsimp only at N9); (try dsimp only))); (k_with "my sub" => (intro p9 hp9; repeat (first | exact hp9 | assumption | refine List.mem_cons_of_mem _ ?_ | refine List.mem_append_right _ ?_))); (k_with "call ref" => ((k_here; (with_reducible show wpAny _ _ (call (Value.ref 109) _) _ _ _); k_dflt (refine Ctr.cVal (by k_asm) (by k_asm) (by k_asm) (by k_asm) (by k_asm) (by first | exact rfl | assumption) (by (first | exact room3 (by assumption) (by rfl) | exact room2 (by assumption) (by rfl) | exact room1 (by assumption) | exact Nat.le_of_ble_eq_true rfl | ktr_room)) (by first | (first | exact room3 (by assumption) (by rfl) | exact room2 (by assumption) (by rfl) | exact room1 (by assumption) | exact Nat.le_of_ble_eq_true rfl | ktr_units) | exact Nat.le_of_ble_eq_true rfl | (have hcL9 := cLine_is; (try simp only [units_under_make, units_in1, units_deeper, Around.mark_units, units_caller] at *); (try dsimp only [ktrTop] at *); omega)) (is_left_out_c _ _ _ _ _ _ _ (by first | assumption | exact DmpAt.mono (by assumption) (by walk_at "my sub")) (by assumption) (by assumption) (by assumption) (by first | assumption | exact RowAt.mono (by assumption) (by walk_at "my sub")) (by assumption)) ?_); k_whole); intro h9 tk9 F9 N9; (try dsimp only); (try k_fold))); (k_with "call ref" => ((k_here; (with_reducible show wpAny _ _ (call (Value.ref 116) _) _ _ _); k_dflt (refine Ctr.cWhenN (by k_asm) (by k_asm) (by k_asm) (by k_asm) (by k_asm) (by first | exact rfl | assumption) (by (first | exact room3 (by assumption) (by rfl) | exact room2 (by assumption) (by rfl) | exact room1 (by assumption) | exact Nat.le_of_ble_eq_true rfl | ktr_room)) (by first | (first | exact room3 (by assumption) (by rfl) | exact room2 (by assumption) (by rfl) | exact room1 (by assumption) | exact Nat.le_of_ble_eq_true rfl | ktr_units) | exact Nat.le_of_ble_eq_true rfl | (have hcL9 := cLine_is; (try simp only [units_under_make, units_in1, units_deeper, Around.mark_units, units_caller] at *); (try dsimp only [ktrTop] at *); omega)) (by assumption) (reuse_time_c _ _ _ _ _ _ (by first | assumption | exact DmpAt.mono (by assumption) (by walk_at "my sub")) (by first | assumption | exact RowAt.mono (by assumption) (by walk_at "my sub")) (by assumption) (by assumption) (by assumption)) ?_); k_whole); intro h9 tk9 F9 N9; (try dsimp only); (try k_fold))); (k_with "getMethod ref" => ((k_here; (with_reducible show wpAny _ _ (getMethod (Value.ref _) (Str.ofString "get") _) _ _ _); k_dflt (refine kdg_method (knd := PySem.intKind _ _) (by k_asm) (by k_mem) (by k_asm) ?_)))); (k_with "call builtin:dict.get" => ((k_here; k_dflt (refine kdg_get1 (knd := PySem.intKind _ _) (by k_asm) (by k_mem) (by k_asm) (by k_asm) (intKind_is _ _ _ _) _ rfl ?_); rw [hbv]; (try dsimp only)))))
    rcases hT9 with ⟨rfl, rfl⟩ | ⟨z, tz, rfl, rfl⟩
    · (unfold CtrL Ctr; k_fill; intro dp un gd cn cs a ccd cl outer A₀ base h₀ L m s0 Q E B F X N T hk hd hu hret; refine wpAny_call ?_; k_dflt ktr_enter; refine e_never ?_)
      k_steps
      (rename Fr _ _ _ _ => fF)
      (rename News _ _ _ _ => fN)
      exact hret _ news _ _ fF (cb_drop fN (by walk_at "my sub")) ⟨rfl, .inl ⟨rfl, rfl⟩⟩
    · have hz := hin ho z rfl
      (unfold CtrL Ctr; k_fill; intro dp un gd cn cs a ccd cl outer A₀ base h₀ L m s0 Q E B F X N T hk hd hu hret; refine wpAny_call ?_; k_dflt ktr_enter; refine e_never ?_)
      k_steps
      (rename Fr _ _ _ _ => fF)
      (rename News _ _ _ _ => fN)
      exact hret _ news _ _ fF (cb_drop fN (by walk_at "my sub")) ⟨congrArg Value.bool (decide_eq_true hz), .inl ⟨rfl, rfl⟩⟩
  | true =>
    (w_top off; k_with_none; (k_with "my updF" => (first | assumption | exact UpdF.tail (my_ne (by assumption) (by assumption)) (by assumption))); (k_with "my upd" => (exact updF_upd (by assumption) _)); (k_with "my mem" => (first | exact updF_new (by assumption) _ | exact updF_old (by assumption) (by assumption) (by assumption) | (refine List.mem_cons_of_mem _ ?_; k_mem) | (refine List.mem_append_right _ ?_; k_mem))); (k_with "my islist" => (exact News.isList (by k_asm) (by k_mem))); (k_with "my fact" => (first | assumption | trivial | omega | (refine ⟨?_, ?_⟩ <;> omega) | ((try dsimp only); first | assumption | omega | l_fact))); (k_with "compareOp In int ref" => ((k_here; k_dflt (refine my_in (by k_asm) (by k_mem) (by k_asm) (by k_asm) _ (by assumption) ?_); (try dsimp only)))); (k_with "subscriptTail" => ((k_here; k_dflt (first
  | ((with_reducible show wpAny _ _ (subscriptTail _ _ (Value.ref _) (Value.str _ _)) _ _ _); refine kda_item (knd := PySem.strKind _ _) (by k_asm) (by k_mem) (by k_asm) (strKind_is _ _ _ _) (by assumption) ?_; (try dsimp only))
  | ((with_reducible show wpAny _ _ (subscriptTail _ _ (Value.ref _) (Value.int _ _)) _ _ _); refine kda_item (knd := PySem.intKind _ _) (by k_asm) (by k_mem) (by k_asm) (intKind_is _ _ _ _) (by assumption) ?_; (try dsimp only)))))); (k_with "setItem ref int" => ((k_here; (with_reducible show wpAny _ _ (setItem (Value.ref _) (Value.int _ _) _) _ _ _); k_dflt (refine kda_set (knd := PySem.intKind _ _) (by k_asm) (cb_drop (news := news) (by k_asm) (by walk_at "my sub")) U (by k_asm) (intKind_is _ _ _ _) (by rw [sizeLine_eq]; exact Nat.le_trans hsz (by omega)) ?_)); intro h9 o9 F9 N9 hd9; (try dsimp only at N9); (have D8 := hG o9); (have R8 := hGR o9); (have md8 := D8.hd); (refine ex7_1 (D8.hx) fun x51 y51 x52 y52 x53 y53 y54 mx8 => ?_); (try dsimp only))); (k_with "my sub" => (intro p9 hp9; repeat (first | exact hp9 | assumption | refine List.mem_cons_of_mem _ ?_ | refine List.mem_append_right _ ?_))); (k_with "call ref" => ((k_here; (with_reducible show wpAny _ _ (call (Value.ref 109) _) _ _ _); k_dflt (refine Ctr.cVal (by k_asm) (by k_asm) (by k_asm) (by k_asm) (by k_asm) (by first | exact rfl | assumption) (by (first | exact room3 (by assumption) (by rfl) | exact room2 (by assumption) (by rfl) | exact room1 (by assumption) | exact Nat.le_of_ble_eq_true rfl | ktr_room)) (by first | (first | exact room3 (by assumption) (by rfl) | exact room2 (by assumption) (by rfl) | exact room1 (by assumption) | exact Nat.le_of_ble_eq_true rfl | ktr_units) | exact Nat.le_of_ble_eq_true rfl | (have hcL9 := cLine_is; (try simp only [units_under_make, units_in1, units_deeper, Around.mark_units, units_caller] at *); (try dsimp only [ktrTop] at *); omega)) (is_left_out_c _ _ _ _ _ _ _ (by first | assumption | exact DmpAt.mono (by assumption) (by walk_at "my sub")) (by assumption) (by assumption) (by assumption) (by first | assumption | exact RowAt.mono (by assumption) (by walk_at "my sub")) (by assumption)) ?_); k_whole); intro h9 tk9 F9 N9; (try dsimp only); (try k_fold))); (k_with "call ref" => ((k_here; (with_reducible show wpAny _ _ (call (Value.ref 116) _) _ _ _); k_dflt (refine Ctr.cWhenS (by k_asm) (by k_asm) (by k_asm) (by k_asm) (by k_asm) (by first | exact rfl | assumption) (by (first | exact room3 (by assumption) (by rfl) | exact room2 (by assumption) (by rfl) | exact room1 (by assumption) | exact Nat.le_of_ble_eq_true rfl | ktr_room)) (by first | (first | exact room3 (by assumption) (by rfl) | exact room2 (by assumption) (by rfl) | exact room1 (by assumption) | exact Nat.le_of_ble_eq_true rfl | ktr_units) | exact Nat.le_of_ble_eq_true rfl | (have hcL9 := cLine_is; (try simp only [units_under_make, units_in1, units_deeper, Around.mark_units, units_caller] at *); (try dsimp only [ktrTop] at *); omega)) (by assumption) (reuse_time_c _ _ _ _ _ _ (by first | assumption | exact DmpAt.mono (by assumption) (by walk_at "my sub")) (by first | assumption | exact RowAt.mono (by assumption) (by walk_at "my sub")) (by assumption) (by assumption) (by assumption)) ?_); k_whole); intro h9 tk9 v9 t9 hl9 F9 N9; (have g0 := hfact v9 hl9); (have g1 := g0.1); (have g2 := g0.2.1); (have g3 := g0.2.2.1); (have g4 := g0.2.2.2.1); (have g5 := g0.2.2.2.2.1); (have g6 := g0.2.2.2.2.2.1); (have g7 := g0.2.2.2.2.2.2); clear g0; (try dsimp only); (try k_fold))); (k_with "getMethod ref" => ((k_here; (with_reducible show wpAny _ _ (getMethod (Value.ref _) (Str.ofString "get") _) _ _ _); k_dflt (refine kdg_method (knd := PySem.intKind _ _) (by k_asm) (by k_mem) (by k_asm) ?_)))); (k_with "call builtin:dict.get" => ((k_here; k_dflt (refine kdg_get1 (knd := PySem.intKind _ _) (by k_asm) (by k_mem) (by k_asm) (by k_asm) (intKind_is _ _ _ _) _ rfl ?_); rw [hbv]; (try dsimp only)))); (k_with "compareOp NotIn none ref" => ((k_here; k_dflt (refine ni_none (by k_asm) (by k_mem) (by first | (first | exact room3 (by assumption) (by rfl) | exact room2 (by assumption) (by rfl) | exact room1 (by assumption) | exact Nat.le_of_ble_eq_true rfl | ktr_units) | exact Nat.le_of_ble_eq_true rfl) ?_); (try dsimp only)))); (k_with "compareOp NotIn int ref" => ((k_here; k_dflt (refine ni_int (by k_asm) (by k_mem) (by first | (first | exact room3 (by assumption) (by rfl) | exact room2 (by assumption) (by rfl) | exact room1 (by assumption) | exact Nat.le_of_ble_eq_true rfl | ktr_units) | exact Nat.le_of_ble_eq_true rfl) ?_); (try dsimp only)))))
    obtain ⟨q, l, tl, rfl, hl0, hf⟩ := hout ho
    have hfact : ∀ v, Least q.fine C.reuse C.half v → q.since + v ≤ l + C.most ∧ (∀ z, T = some z → z = q.since + v) ∧ now < q.since + v ∧ outR C.half C.reuse (some q) (q.since + v - 1) = true ∧ outR C.half C.reuse (some q) (q.since + v) = false ∧ RowOk (q.since + v - 1) (some q) ∧ RowOk (q.since + v) (some q) := fun v hl => by
      obtain ⟨h1, h2, h3⟩ := hf v hl
      obtain ⟨w1, w2, w3⟩ := out_when hC ho hl z1
      exact ⟨h1, h3, w1, w2, w3, hok _ (by omega) (by omega), hok _ (by omega) (by omega)⟩
    rcases hT9 with ⟨rfl, rfl⟩ | ⟨z, tz, rfl, rfl⟩
    · (unfold CtrL Ctr; k_fill; intro dp un gd cn cs a ccd cl outer A₀ base h₀ L m s0 Q E B F X N T hk hd hu hret; refine wpAny_call ?_; k_dflt ktr_enter; refine e_never ?_)
      k_steps
      (rename Fr _ _ _ _ => fF)
      (rename News _ _ _ _ => fN)
      exact hret _ _ _ _ fF fN ⟨by rw [g5]; rfl, .inr ⟨rfl, q, _, _, _, rfl, hl9, rfl, hd9⟩⟩
    · replace hfact : ∀ v, Least q.fine C.reuse C.half v → q.since + v ≤ l + C.most ∧ z = q.since + v ∧ now < q.since + v ∧ outR C.half C.reuse (some q) (q.since + v - 1) = true ∧ outR C.half C.reuse (some q) (q.since + v) = false ∧ RowOk (q.since + v - 1) (some q) ∧ RowOk (q.since + v) (some q) := fun v hl => by
        obtain ⟨h1, h2, h3⟩ := hfact v hl
        exact ⟨h1, h2 z rfl, h3⟩
      (unfold CtrL Ctr; k_fill; intro dp un gd cn cs a ccd cl outer A₀ base h₀ L m s0 Q E B F X N T hk hd hu hret; refine wpAny_call ?_; k_dflt ktr_enter; refine e_never ?_)
      k_steps
      (rename Fr _ _ _ _ => fF)
      (rename News _ _ _ _ => fN)
      exact hret _ _ _ _ fF fN ⟨by rw [g5]; rfl, .inr ⟨rfl, q, _, _, _, rfl, hl9, rfl, hd9⟩⟩
noncomputable def shiftR (mv : Int) (q : Option Row) : Option Row := q.map fun r => { r with since := r.since + mv }
theorem pen_shift {h mv t : Int} {q : Option Row} : penR h (shiftR mv q) (t + mv) = penR h q t := by
  cases q with
  | none => rfl
  | some r => show dec r.fine (t + mv - (r.since + mv)) h = dec r.fine (t - r.since) h; rw [show t + mv - (r.since + mv) = t - r.since by omega]
theorem out_shift {h reuse mv t : Int} {q : Option Row} : outR h reuse (shiftR mv q) (t + mv) = outR h reuse q t := by
  cases q with
  | none => rfl
  | some r =>
    show (r.out && decide (reuse < penR h (shiftR mv (some r)) (t + mv))) = (r.out && decide (reuse < penR h (some r) t))
    rw [pen_shift]
theorem ok_shift {mv t : Int} {q : Option Row} (h : RowOk t q) : RowOk (t + mv) (shiftR mv q) := by
  cases q with
  | none => trivial
  | some r => obtain ⟨a, b, c, d⟩ := h; exact ⟨a, b, by show 0 ≤ t + mv - (r.since + mv); omega, by show t + mv - (r.since + mv) < 1000; omega⟩
theorem isOut_shift {mv : Int} {q : Option Row} : isOut (shiftR mv q) = isOut q := by cases q <;> rfl
theorem low_shift {C : Cfg} {mv t : Int} {q : Option Row} : lowR C (t + mv) (shiftR mv q) = lowR C t q := by unfold lowR; rw [pen_shift]
theorem toReuse_shift {C : Cfg} {mv t : Int} {q : Option Row} : toReuse C (t + mv) (shiftR mv q) = toReuse C t q := by unfold toReuse; rw [isOut_shift, out_shift]
theorem reuse_shift {C : Cfg} {mv t : Int} {q : Option Row} : reuseR C (t + mv) (shiftR mv q) = shiftR mv (reuseR C t q) := by
  cases q with
  | none => rfl
  | some r =>
    have e := toReuse_shift (C := C) (mv := mv) (t := t) (q := some r)
    have e2 := pen_shift (h := C.half) (mv := mv) (t := t) (q := some r)
    show (if toReuse C (t + mv) (shiftR mv (some r)) = true then some { fine := penR C.half (shiftR mv (some r)) (t + mv), since := t + mv, out := false } else shiftR mv (some r)) = shiftR mv (if toReuse C t (some r) = true then some { fine := penR C.half (some r) t, since := t, out := false } else some r)
    rw [e, e2]
    by_cases c : toReuse C t (some r) = true
    · rw [if_pos c, if_pos c]; rfl
    · rw [if_neg c, if_neg c]
theorem fin_shift {C : Cfg} {top add mv t : Int} {q : Option Row} : some (finR C top add (shiftR mv q) (t + mv)) = shiftR mv (some (finR C top add q t)) := by
  unfold finR shiftR
  simp only [Option.map_some]
  rw [show Option.map (fun r : Row => { r with since := r.since + mv }) q = shiftR mv q from rfl, pen_shift, out_shift]
theorem louts_shift {C : Cfg} {k mv t : Int} {q : Option Row} : louts C k (shiftR mv q) (t + mv) = (louts C k q t).map (shiftP mv) := by
  unfold louts
  rw [out_shift]
  split
  · cases q with
    | none => rename_i h; cases h
    | some r => simp only [List.map_cons, List.map_nil, shiftP, whenR, shiftR, Option.map_some]; congr 2; omega
  · rfl
theorem louts_no {C : Cfg} {k t : Int} : louts C k none t = [] := louts_none rfl
theorem louts2_shift {C : Cfg} {mv t : Int} {q1 q2 : Option Row} : louts2 C (shiftR mv q1) (shiftR mv q2) (t + mv) = (louts2 C q1 none t ++ louts2 C none q2 t).map (shiftP mv) := by
  unfold louts2
  rw [louts_no, louts_no, List.append_nil, List.nil_append, List.map_append, louts_shift, louts_shift]
theorem keysOf_none1 {q : Option Row} : keysOf none q = if q.isSome then [2] else [] := by simp [keysOf]
theorem reuseKeys_join {C : Cfg} {mv t : Int} {q1 q2 : Option Row} : reuseKeys C (t + mv) (shiftR mv q1) (shiftR mv q2) = reuseKeys C t q1 none ++ reuseKeys C t none q2 := by
  have e1 := toReuse_shift (C := C) (mv := mv) (t := t) (q := q1)
  have e2 := toReuse_shift (C := C) (mv := mv) (t := t) (q := q2)
  unfold reuseKeys keysOf
  cases q1 <;> cases q2 <;> simp [shiftR, rowOf] at e1 e2 ⊢ <;> simp [List.filter_cons, rowOf, e1, e2]
  split <;> simp
theorem goneKeys_join {C : Cfg} {mv t : Int} {q1 q2 : Option Row} : goneKeys C (t + mv) (shiftR mv q1) (shiftR mv q2) = goneKeys C t q1 none ++ goneKeys C t none q2 := by
  have e1 := low_shift (C := C) (mv := mv) (t := t) (q := q1)
  have e2 := low_shift (C := C) (mv := mv) (t := t) (q := q2)
  have e3 := isOut_shift (mv := mv) (q := q1)
  have e4 := isOut_shift (mv := mv) (q := q2)
  unfold goneKeys keysOf
  cases q1 <;> cases q2 <;> simp [shiftR, rowOf] at e1 e2 e3 e4 ⊢ <;> simp [List.filter_cons, rowOf, e1, e2, e3, e4]
  split <;> simp [List.filter_cons, rowOf, e3, e4]
noncomputable def forgetR (C : Cfg) (t : Int) (q : Option Row) : Option Row := if lowR C t q = true ∧ isOut q = false then none else q
theorem forget_shift {C : Cfg} {mv t : Int} {q : Option Row} : forgetR C (t + mv) (shiftR mv q) = shiftR mv (forgetR C t q) := by
  unfold forgetR
  rw [low_shift, isOut_shift]
  split <;> rfl
theorem goneKeys_mem {C : Cfg} {t : Int} {q1 q2 : Option Row} {k : Int} (hk : k = 1 ∨ k = 2) : k ∈ goneKeys C t q1 q2 ↔ (rowOf q1 q2 k).isSome = true ∧ lowR C t (rowOf q1 q2 k) = true ∧ isOut (rowOf q1 q2 k) = false := by
  unfold goneKeys
  simp only [List.mem_filter, Bool.not_eq_true']
  have : k ∈ keysOf q1 q2 ↔ (rowOf q1 q2 k).isSome = true := by
    rcases hk with rfl | rfl <;> cases q1 <;> cases q2 <;> simp [keysOf, rowOf]
  rw [this]
  constructor
  · rintro ⟨⟨a, b⟩, c⟩; exact ⟨a, b, c⟩
  · rintro ⟨a, b, c⟩; exact ⟨⟨a, b⟩, c⟩
theorem rows_forget {news news' : Led} {kvs : List (Int × Value)} {q1 q2 : Option Row} {C : Cfg} {t : Int} (R : Rows2 news kvs q1 q2) (keep : ∀ p ∈ news, p.2.cls = .type "tuple" → p ∈ news') :
    Rows2 news' ((goneKeys C t q1 q2).foldl without kvs) (forgetR C t q1) (forgetR C t q2) := by
  have at' : ∀ k, k = 1 ∨ k = 2 → RowAt news' ((goneKeys C t q1 q2).foldl without kvs) k (forgetR C t (rowOf q1 q2 k)) := fun k hk => by
    have r := R.at hk
    have m := goneKeys_mem (C := C) (t := t) (q1 := q1) (q2 := q2) hk
    unfold forgetR
    by_cases c : lowR C t (rowOf q1 q2 k) = true ∧ isOut (rowOf q1 q2 k) = false
    · rw [if_pos c]
      cases e : rowOf q1 q2 k with
      | none =>
        rw [e] at r
        exact val_dels_none r
      | some q => exact val_dels_in (m.mpr ⟨by rw [e]; rfl, c.1, c.2⟩)
    · rw [if_neg c]
      exact r.sub (val_dels fun h => c (m.mp h).2) keep
  refine ⟨at' 1 (.inl rfl), at' 2 (.inr rfl), ?_⟩
  rw [map_dels]
  refine List.Perm.trans ?_ (R.ks.filter _)
  have m1 := goneKeys_mem (C := C) (t := t) (q1 := q1) (q2 := q2) (.inl rfl)
  have m2 := goneKeys_mem (C := C) (t := t) (q1 := q1) (q2 := q2) (.inr rfl)
  have e : keysOf (forgetR C t q1) (forgetR C t q2) = (keysOf q1 q2).filter fun k => decide (k ∉ goneKeys C t q1 q2) := by
    generalize goneKeys C t q1 q2 = G at m1 m2
    have r1 : rowOf q1 q2 1 = q1 := rfl
    have r2 : rowOf q1 q2 2 = q2 := rfl
    rw [r1] at m1
    rw [r2] at m2
    unfold forgetR
    cases q1 with
    | none => cases q2 with
      | none => simp [keysOf]
      | some b =>
        by_cases c2 : lowR C t (some b) = true ∧ isOut (some b) = false
        · have : (2 : Int) ∈ G := m2.mpr ⟨rfl, c2⟩
          simp [keysOf, c2, this]
        · have : (2 : Int) ∉ G := fun h => c2 (m2.mp h).2
          simp [keysOf, c2, this]
    | some a =>
      by_cases c1 : lowR C t (some a) = true ∧ isOut (some a) = false
      · have h1 : (1 : Int) ∈ G := m1.mpr ⟨rfl, c1⟩
        cases q2 with
        | none => simp [keysOf, c1, h1]
        | some b =>
          by_cases c2 : lowR C t (some b) = true ∧ isOut (some b) = false
          · have : (2 : Int) ∈ G := m2.mpr ⟨rfl, c2⟩
            simp [keysOf, c1, c2, h1, this]
          · have : (2 : Int) ∉ G := fun h => c2 (m2.mp h).2
            simp [keysOf, c1, c2, h1, this]
      · have h1 : (1 : Int) ∉ G := fun h => c1 (m1.mp h).2
        cases q2 with
        | none => simp [keysOf, c1, h1]
        | some b =>
          by_cases c2 : lowR C t (some b) = true ∧ isOut (some b) = false
          · have : (2 : Int) ∈ G := m2.mpr ⟨rfl, c2⟩
            simp [keysOf, c1, c2, h1, this]
          · have : (2 : Int) ∉ G := fun h => c2 (m2.mp h).2
            simp [keysOf, c1, c2, h1, this]
  rw [e]
theorem keysOf_same {q1 q2 q3 q4 : Option Row} (h1 : q1.isSome = q3.isSome) (h2 : q2.isSome = q4.isSome) : keysOf q1 q2 = keysOf q3 q4 := by unfold keysOf; rw [h1, h2]
theorem reuseR_isSome {C : Cfg} {t : Int} {q : Option Row} : (reuseR C t q).isSome = q.isSome := by
  cases q with
  | none => rfl
  | some r => unfold reuseR; dsimp only; split <;> rfl
theorem step_all {C : Cfg} {t : Int} {q1 q2 : Option Row} {k : Int} (hk : k = 1 ∨ k = 2) : stepRow C t q1 q2 (keysOf q1 q2) k = reuseR C t (rowOf q1 q2 k) := by
  unfold stepRow
  split
  · rfl
  · rename_i h
    cases e : rowOf q1 q2 k with
    | none => rfl
    | some q =>
      exfalso; apply h
      rcases hk with rfl | rfl
      · have : q1 = some q := e
        simp [keysOf, this]
      · have : q2 = some q := e
        simp [keysOf, this]
theorem rows_reused {w : World} {news : Led} {g : Obj → Led} {r : Addr} {kvs kv' : List (Int × Value)} {C : Cfg} {t : Int} {q1 q2 : Option Row} {tups : Led} {o' : Obj} {fs : List Value} (R : Rows2 news kvs q1 q2) (J : RuJ w news g r kvs C t q1 q2 (keysOf q1 q2) tups o' kv' fs) :
    Rows2 (tups ++ g o') kv' (reuseR C t q1) (reuseR C t q2) := by
  have r1 := J.row 1 (.inl rfl)
  have r2 := J.row 2 (.inr rfl)
  rw [step_all (.inl rfl)] at r1
  rw [step_all (.inr rfl)] at r2
  refine ⟨r1, r2, ?_⟩
  rw [J.keys, keysOf_same reuseR_isSome reuseR_isSome]
  exact R.ks

/-- what holds of one way's row, of what was told and of its last fine -/
structure WayOk (C : Cfg) (top now : Int) (q : Option Row) (T L : Option Int) : Prop where
  row : ∀ r, q = some r → 0 ≤ r.fine ∧ r.fine ≤ top ∧ 0 ≤ r.since ∧ r.since ≤ now ∧ (r.out = true → L = some r.since)
  told : ∀ t, T = some t → (∃ r v, q = some r ∧ r.out = true ∧ Least r.fine C.reuse C.half v ∧ t = r.since + v) ∨ (t ≤ now ∧ isOut q = false)
theorem WayOk.later {C : Cfg} {top now now' : Int} {q : Option Row} {T L : Option Int} (h : WayOk C top now q T L) (k : now ≤ now') : WayOk C top now' q T L :=
  ⟨fun r e => by obtain ⟨a, b, c, d, f⟩ := h.row r e; exact ⟨a, b, c, by omega, f⟩, fun t e => (h.told t e).imp (fun x => x) fun x => ⟨by omega, x.2⟩⟩
theorem WayOk.ok {C : Cfg} {top now t : Int} {q : Option Row} {T L : Option Int} (h : WayOk C top now q T L) (ht : top < 1000000) (hn : now < 500) (h1 : now ≤ t) (h2 : t < now + 300) : RowOk t q := by
  cases q with
  | none => trivial
  | some r => obtain ⟨a, b, c, d, f⟩ := h.row r rfl; exact ⟨a, by omega, by omega, by omega⟩
theorem WayOk.start {C : Cfg} {top now : Int} : WayOk C top now none none none := ⟨fun _ e => (nomatch e), fun _ e => nomatch e⟩
theorem WayOk.pen {C : Cfg} {top now t : Int} {q : Option Row} {T L : Option Int} (h : WayOk C top now q T L) (hh : 1 ≤ C.half) (ht : 0 ≤ top) (h1 : now ≤ t) : 0 ≤ penR C.half q t ∧ penR C.half q t ≤ top := by
  cases q with
  | none => exact ⟨Int.le_refl 0, ht⟩
  | some r =>
    obtain ⟨a, b, c, d, f⟩ := h.row r rfl
    have := dec_le (p := r.fine) (s := t - r.since) (h := C.half) a (by omega) hh
    exact ⟨dec_nn a hh, by show dec r.fine (t - r.since) C.half ≤ top; omega⟩
theorem WayOk.fined {C : Cfg} {top now add : Int} {q : Option Row} {T L : Option Int} (h : WayOk C top now q T L) (hh : 1 ≤ C.half) (ht : 0 ≤ top) (ha : 0 ≤ add) (hn : 0 ≤ now) : WayOk C top now (some (finR C top add q now)) none (some now) := by
  have p := h.pen (t := now) hh ht (Int.le_refl _)
  refine ⟨fun r e => ?_, fun _ e => nomatch e⟩
  obtain rfl := Option.some.inj e
  refine ⟨?_, ?_, hn, Int.le_refl _, fun _ => rfl⟩
  · show 0 ≤ min top (penR C.half q now + add); omega
  · show min top (penR C.half q now + add) ≤ top; omega
theorem least_le {p g h v s : Int} (hp : 0 ≤ p) (hs : 0 ≤ s) (hh : 1 ≤ h) (hl : Least p g h v) (k : dec p s h ≤ g) : v ≤ s := by
  refine Decidable.byContradiction fun c => ?_
  have := hl.2.2.2 s hs (by omega)
  omega
theorem out_true {C : Cfg} {r : Row} {now : Int} (h1 : r.out = true) (h2 : outR C.half C.reuse (some r) now = false) : dec r.fine (now - r.since) C.half ≤ C.reuse := by
  have h3 : (r.out && decide (C.reuse < dec r.fine (now - r.since) C.half)) = false := h2
  rw [h1, Bool.true_and] at h3
  have := of_decide_eq_false h3
  omega
theorem WayOk.passed {C : Cfg} {top now : Int} {q : Option Row} {T L : Option Int} (h : WayOk C top now q T L) (hh : 1 ≤ C.half) (ho : outR C.half C.reuse q now = false) : ∀ z, T = some z → z ≤ now := fun z e => by
  rcases h.told z e with ⟨r, v, rfl, h1, h2, rfl⟩ | ⟨h1, _⟩
  · obtain ⟨a, b, c, d, f⟩ := h.row r rfl
    have := least_le (s := now - r.since) a (by omega) hh h2 (out_true h1 ho)
    omega
  · exact h1
theorem WayOk.reused {C : Cfg} {top now : Int} {q : Option Row} {T L : Option Int} (h : WayOk C top now q T L) (hh : 1 ≤ C.half) (ht : 0 ≤ top) (hn : 0 ≤ now) : WayOk C top now (reuseR C now q) T L := by
  cases q with
  | none => exact h
  | some r =>
    unfold reuseR
    dsimp only
    by_cases c : toReuse C now (some r) = true
    · rw [if_pos c]
      obtain ⟨c1, c2⟩ := Bool.and_eq_true_iff.mp c
      have p := h.pen (t := now) hh ht (Int.le_refl _)
      refine ⟨fun r' e => ?_, fun t e => .inr ⟨h.passed hh (by simpa using c2) t e, rfl⟩⟩
      obtain rfl := Option.some.inj e
      exact ⟨p.1, p.2, hn, Int.le_refl _, fun k => nomatch k⟩
    · rw [if_neg c]; exact h
theorem WayOk.forget {C : Cfg} {top now : Int} {q : Option Row} {T L : Option Int} (h : WayOk C top now q T L) : WayOk C top now (forgetR C now q) T L := by
  unfold forgetR
  split
  · rename_i c
    refine ⟨fun _ e => (nomatch e), fun t e => ?_⟩
    rcases h.told t e with ⟨r, v, rfl, h1, h2, rfl⟩ | ⟨h1, _⟩
    · have : r.out = false := c.2
      rw [this] at h1; cases h1
    · exact .inr ⟨h1, rfl⟩
  · exact h
theorem dec_gpen {reuse most half : Int} (hr : 0 ≤ reuse) (hm : 0 ≤ most) (hh : 1 ≤ half) : dec (gpen reuse most half) most half ≤ reuse := by
  refine Decidable.byContradiction fun c => ?_
  have k : reuse < dec (gpen reuse most half) most half := by omega
  rw [lt_dec hh] at k
  have b1 := fmod_bounds (a := most) (b := half) hh
  unfold gpen at k
  rw [Int.fdiv_eq_ediv_of_nonneg (reuse * (2 * half * 2 ^ (most.fdiv half).toNat)) (by omega)] at k
  rw [Int.fdiv_eq_ediv_of_nonneg most (by omega), Int.fmod_eq_emod_of_nonneg most (by omega)] at *
  have y := Int.ediv_mul_le (reuse * (2 * half * 2 ^ (most / half).toNat)) (show 2 * half - most % half ≠ 0 by omega)
  have p1 := two_pow_pos (most / half).toNat
  have p2 : 0 < 2 * half * 2 ^ (most / half).toNat := Int.mul_pos (by omega) p1
  have e : (reuse + 1) * (2 * half * 2 ^ (most / half).toNat) = reuse * (2 * half * 2 ^ (most / half).toNat) + 2 * half * 2 ^ (most / half).toNat := by rw [Int.add_mul, Int.one_mul]
  omega
theorem gpen_nn1 {reuse most half : Int} (hr : 0 ≤ reuse) (hm : 0 ≤ most) (hh : 1 ≤ half) : 0 ≤ gpen reuse most half := by
  have h3 := fmod_bounds (a := most) (b := half) hh
  have h2 := two_pow_pos (most.fdiv half).toNat
  exact fdiv_nn (Int.mul_nonneg hr (Int.mul_nonneg (by omega) (by omega))) (by omega)
theorem gpen_lt {reuse most half : Int} (hr : 0 ≤ reuse ∧ reuse ≤ 200) (hm : 0 ≤ most ∧ most ≤ half + 7) (hh : 2 ≤ half ∧ half ≤ 5) : gpen reuse most half < 1000000 := by
  have h3 := fmod_bounds (a := most) (b := half) (by omega)
  have h2 := two_pow_pos (most.fdiv half).toNat
  have h4 : most.fdiv half ≤ 4 := by
    rw [Int.fdiv_eq_ediv_of_nonneg _ (by omega)]
    have : most / half < 5 := Int.ediv_lt_of_lt_mul (by omega) (by omega)
    omega
  have h5 : (2 : Int) ^ (most.fdiv half).toNat ≤ 2 ^ 4 := two_pow_mono (by omega)
  unfold gpen
  rw [Int.fdiv_eq_ediv_of_nonneg _ (by omega)]
  have h6 : 2 * half * 2 ^ (most.fdiv half).toNat ≤ 10 * 2 ^ 4 := Int.le_trans (Int.mul_le_mul_of_nonneg_left h5 (by omega)) (Int.mul_le_mul_of_nonneg_right (by omega) (by decide))
  have h7 : 0 ≤ 2 * half * 2 ^ (most.fdiv half).toNat := Int.mul_nonneg (by omega) (by omega)
  have h8 : reuse * (2 * half * 2 ^ (most.fdiv half).toNat) ≤ 200 * (10 * 2 ^ 4) := Int.le_trans (Int.mul_le_mul_of_nonneg_left h6 hr.1) (Int.mul_le_mul_of_nonneg_right hr.2 (by decide))
  exact Int.ediv_lt_of_lt_mul (by omega) (by have : (0:Int) < 2 * half - most.fmod half := by omega
                                             have : 200 * (10 * 2 ^ 4) < 1000000 * (2 * half - most.fmod half) := by omega
                                             omega)
/-- what stays as it was laid: 0 box, 1 script, 2 alone, 3 book, 4 last, 5 told, 6 config, 7+i damper, 10+i its fields, 13+i its rows -/
structure Ad1 where
  ad : Nat → Addr
  vs : List Value
  ns : List Int
  n2 : Nat
  oc : Obj
  oal : Obj
  obk : Obj
  kc : List (Str × Value)
  kb : List (Str × Value)
  ka : List (Int × Value)
  C : Cfg
  top : Int
structure Ad1Ok (w : World) (a : Ad1) : Prop where
  inj : ∀ i j, i < 16 → j < 16 → a.ad i = a.ad j → i = j
  isInts : IntsAre a.vs a.ns
  len : a.ns.length ≤ 100
  cfg : CfgAt a.kc a.C
  ok : CfgOk a.C
  most : a.C.most ≤ a.C.half + 7
  top : a.top = gpen a.C.reuse a.C.most a.C.half
  ald : a.oal.IsDictOf (PySem.intKind Mine.XL.row.prog w) a.ka
  al1 : valueAt a.ka 1 = some (.ref (a.ad 7))
  al2 : valueAt a.ka 2 = some (.ref (a.ad 8))
  bkd : a.obk.IsDictOf (PySem.strKind Mine.XL.row.prog w) a.kb
  bk1 : valueAt a.kb (Str.ofString "last") = some (.ref (a.ad 4))
  bk2 : valueAt a.kb (Str.ofString "told") = some (.ref (a.ad 5))
  tos : (a.ad 5 == sysModules) = false
theorem Ad1Ok.ne {w : World} {a : Ad1} (h : Ad1Ok w a) (i j : Nat) (hi : i < 16) (hj : j < 16) (hij : i ≠ j) : a.ad i ≠ a.ad j := fun e => hij (h.inj i j hi hj e)
theorem Ad1Ok.topb {w : World} {a : Ad1} (h : Ad1Ok w a) : 0 ≤ a.top ∧ a.top < 1000000 := by
  have h1 := h.ok.half
  have h2 := h.ok.reuse
  have h3 := h.ok.most
  have h4 := h.most
  rw [h.top]
  exact ⟨gpen_nn1 (by omega) h3.1 (by omega), gpen_lt (by omega) (by omega) h1⟩
structure St1 where
  cnt : Int
  ob : Nat → Obj
  kv : Nat → List (Int × Value)
  qa : Nat → Option Row
  qb : Nat → Option Row
  ola : Obj
  oto : Obj
  kl : List (Int × Value)
  kt : List (Int × Value)
  T : Int → Option Int
  L : Int → Option Int
  m : Nat
noncomputable def upd {α : Type} (f : Nat → α) (i : Nat) (v : α) (j : Nat) : α := if j = i then v else f j
noncomputable def updI (f : Int → Option Int) (k : Int) (v : Option Int) (j : Int) : Option Int := if j = k then v else f j
noncomputable def LastAt (kl : List (Int × Value)) (k : Int) (o : Option Int) : Prop := ∀ v, o = some v → ∃ t, valueAt kl k = some (.int v t)
structure LS1 (w : World) (nx : Led) (a : Ad1) (t : St1) : Prop where
  nd : (nx.map (·.1)).Nodup
  box : ∃ ts nb, (a.ad 0, W.listOf [.ref (a.ad 1), .int t.cnt ts].toArray nb) ∈ nx
  inner : (a.ad 1, W.listOf a.vs.toArray a.n2) ∈ nx
  al : (a.ad 2, a.oal) ∈ nx
  bk : (a.ad 3, a.obk) ∈ nx
  la : (a.ad 4, t.ola) ∈ nx
  lad : t.ola.IsDictOf (PySem.intKind Mine.XL.row.prog w) t.kl
  to : (a.ad 5, t.oto) ∈ nx
  tod : t.oto.IsDictOf (PySem.intKind Mine.XL.row.prog w) t.kt
  len : t.kl.length ≤ t.m ∧ t.kt.length ≤ t.m
  D : ∀ i, i < 3 → DmpAt w nx (a.ad (i + 7)) (a.ad (i + 10)) (a.ad 6) (a.ad (i + 13)) a.oc (t.ob i) a.kc (t.kv i) a.top
  R : ∀ i, i < 3 → Rows2 nx (t.kv i) (t.qa i) (t.qb i)
  told : ∀ k, k = 1 ∨ k = 2 → ToldAt t.kt k (t.T k)
  last : ∀ k, k = 1 ∨ k = 2 → LastAt t.kl k (t.L k)
theorem Rows2.keep {nx nx' : Led} {kvs : List (Int × Value)} {q1 q2 : Option Row} {x : Addr} {o : Obj} (R : Rows2 nx kvs q1 q2) (keep : ∀ p ∈ nx, p.1 ≠ x → p ∈ nx') (nd : (nx.map (·.1)).Nodup) (hx : (x, o) ∈ nx) (hc : o.cls ≠ .type "tuple") : Rows2 nx' kvs q1 q2 :=
  have k : ∀ p ∈ nx, p.2.cls = .type "tuple" → p ∈ nx' := fun p hp h => keep p hp (ne_of_cls nd hp hx (by rw [h]; exact fun e => hc e.symm))
  ⟨R.r1.sub rfl k, R.r2.sub rfl k, R.ks⟩
section
variable {w : World} {nx nx' : Led} {a : Ad1} {t : St1}
theorem LS1.rows {i : Nat} {o' : Obj} {kv' : List (Int × Value)} {qa' qb' : Option Row} (S : LS1 w nx a t) (ok : Ad1Ok w a) (hi : i < 3) (nd' : (nx'.map (·.1)).Nodup) (keep : ∀ p ∈ nx, p.1 ≠ a.ad (i + 13) → p ∈ nx') (hm : (a.ad (i + 13), o') ∈ nx') (hd : o'.IsDictOf (PySem.intKind Mine.XL.row.prog w) kv') (hl : kv'.length ≤ 100) (hR : Rows2 nx' kv' qa' qb') :
    LS1 w nx' a { t with ob := upd t.ob i o', kv := upd t.kv i kv', qa := upd t.qa i qa', qb := upd t.qb i qb' } := by
  have k : ∀ j, j < 16 → j ≠ i + 13 → ∀ o, (a.ad j, o) ∈ nx → (a.ad j, o) ∈ nx' := fun j hj hne o h => keep _ h (ok.ne _ _ hj (by omega) hne)
  refine ⟨nd', ?_, k 1 (by omega) (by omega) _ S.inner, k 2 (by omega) (by omega) _ S.al, k 3 (by omega) (by omega) _ S.bk, k 4 (by omega) (by omega) _ S.la, S.lad, k 5 (by omega) (by omega) _ S.to, S.tod, S.len, fun j hj => ?_, fun j hj => ?_, S.told, S.last⟩
  · obtain ⟨ts, nb, h⟩ := S.box
    exact ⟨ts, nb, k 0 (by omega) (by omega) _ h⟩
  · show DmpAt w nx' (a.ad (j + 7)) (a.ad (j + 10)) (a.ad 6) (a.ad (j + 13)) a.oc (upd t.ob i o' j) a.kc (upd t.kv i kv' j) a.top
    unfold upd
    have D := S.D j hj
    by_cases e : j = i
    · subst e
      rw [if_pos rfl, if_pos rfl]
      obtain ⟨x1, y1, x2, y2, x3, y3, y4, h⟩ := D.hx
      exact ⟨k _ (by omega) (by omega) _ D.hd, ⟨x1, y1, x2, y2, x3, y3, y4, k _ (by omega) (by omega) _ h⟩, k _ (by omega) (by omega) _ D.hc, D.hcd, hm, hd, D.hrs, hl⟩
    · rw [if_neg e, if_neg e]
      exact D.keep (o := o') keep (ok.ne _ _ (by omega) (by omega) (by omega)) (ok.ne _ _ (by omega) (by omega) (by omega)) (ok.ne _ _ (by omega) (by omega) (by omega)) (ok.ne _ _ (by omega) (by omega) (by omega))
  · show Rows2 nx' (upd t.kv i kv' j) (upd t.qa i qa' j) (upd t.qb i qb' j)
    unfold upd
    by_cases e : j = i
    · rw [if_pos e, if_pos e, if_pos e]; exact hR
    · rw [if_neg e, if_neg e, if_neg e]
      have D := S.D i hi
      exact (S.R j hj).keep keep S.nd D.hr (by rw [dict_cls D.hrd]; decide)
theorem LS1.frame {x : Nat} (S : LS1 w nx a t) (ok : Ad1Ok w a) (hx : x = 0 ∨ x = 4 ∨ x = 5) {o : Obj} (ho : (a.ad x, o) ∈ nx) (hc : o.cls ≠ .type "tuple") (keep : ∀ p ∈ nx, p.1 ≠ a.ad x → p ∈ nx') :
    (∀ i, i < 3 → DmpAt w nx' (a.ad (i + 7)) (a.ad (i + 10)) (a.ad 6) (a.ad (i + 13)) a.oc (t.ob i) a.kc (t.kv i) a.top) ∧ (∀ i, i < 3 → Rows2 nx' (t.kv i) (t.qa i) (t.qb i)) ∧ (∀ j, j < 16 → j ≠ x → ∀ o, (a.ad j, o) ∈ nx → (a.ad j, o) ∈ nx') := by
  have hx6 : x < 6 := by omega
  refine ⟨fun i hi => (S.D i hi).keep (o := o) keep (ok.ne _ _ (by omega) (by omega) (by omega)) (ok.ne _ _ (by omega) (by omega) (by omega)) (ok.ne _ _ (by omega) (by omega) (by omega)) (ok.ne _ _ (by omega) (by omega) (by omega)), fun i hi => (S.R i hi).keep keep S.nd ho hc, fun j hj hne o h => keep _ h (ok.ne _ _ hj (by omega) hne)⟩
theorem LS1.draw {ts : Tok} {nb : Nat} {ts' : Tok} {nb' : Nat} (S : LS1 w nx a t) (ok : Ad1Ok w a) (hb : (a.ad 0, W.listOf [.ref (a.ad 1), .int t.cnt ts].toArray nb) ∈ nx) (nd' : (nx'.map (·.1)).Nodup) (keep : ∀ p ∈ nx, p.1 ≠ a.ad 0 → p ∈ nx') (hm : (a.ad 0, W.listOf [.ref (a.ad 1), .int (t.cnt + 1) ts'].toArray nb') ∈ nx') : LS1 w nx' a { t with cnt := t.cnt + 1 } := by
  obtain ⟨f1, f2, k⟩ := S.frame ok (x := 0) (.inl rfl) hb (by show (Value.type "list") ≠ .type "tuple"; decide) keep
  exact ⟨nd', ⟨ts', nb', hm⟩, k 1 (by omega) (by omega) _ S.inner, k 2 (by omega) (by omega) _ S.al, k 3 (by omega) (by omega) _ S.bk, k 4 (by omega) (by omega) _ S.la, S.lad, k 5 (by omega) (by omega) _ S.to, S.tod, S.len, f1, f2, S.told, S.last⟩
theorem LS1.setTold {o' : Obj} {kt' : List (Int × Value)} {T' : Int → Option Int} (S : LS1 w nx a t) (ok : Ad1Ok w a) (nd' : (nx'.map (·.1)).Nodup) (keep : ∀ p ∈ nx, p.1 ≠ a.ad 5 → p ∈ nx') (hm : (a.ad 5, o') ∈ nx') (hd : o'.IsDictOf (PySem.intKind Mine.XL.row.prog w) kt') (hl : kt'.length ≤ t.m + 1) (hT : ∀ k, k = 1 ∨ k = 2 → ToldAt kt' k (T' k)) : LS1 w nx' a { t with oto := o', kt := kt', T := T', m := t.m + 1 } := by
  obtain ⟨f1, f2, k⟩ := S.frame ok (x := 5) (.inr (.inr rfl)) S.to (by rw [dict_cls S.tod]; decide) keep
  obtain ⟨ts, nb, h⟩ := S.box
  exact ⟨nd', ⟨ts, nb, k 0 (by omega) (by omega) _ h⟩, k 1 (by omega) (by omega) _ S.inner, k 2 (by omega) (by omega) _ S.al, k 3 (by omega) (by omega) _ S.bk, k 4 (by omega) (by omega) _ S.la, S.lad, hm, hd, ⟨Nat.le_succ_of_le S.len.1, hl⟩, f1, f2, hT, S.last⟩
theorem LS1.setLast {o' : Obj} {kl' : List (Int × Value)} {L' : Int → Option Int} (S : LS1 w nx a t) (ok : Ad1Ok w a) (nd' : (nx'.map (·.1)).Nodup) (keep : ∀ p ∈ nx, p.1 ≠ a.ad 4 → p ∈ nx') (hm : (a.ad 4, o') ∈ nx') (hd : o'.IsDictOf (PySem.intKind Mine.XL.row.prog w) kl') (hl : kl'.length ≤ t.m + 1) (hL : ∀ k, k = 1 ∨ k = 2 → LastAt kl' k (L' k)) : LS1 w nx' a { t with ola := o', kl := kl', L := L', m := t.m + 1 } := by
  obtain ⟨f1, f2, k⟩ := S.frame ok (x := 4) (.inr (.inl rfl)) S.la (by rw [dict_cls S.lad]; decide) keep
  obtain ⟨ts, nb, h⟩ := S.box
  exact ⟨nd', ⟨ts, nb, k 0 (by omega) (by omega) _ h⟩, k 1 (by omega) (by omega) _ S.inner, k 2 (by omega) (by omega) _ S.al, k 3 (by omega) (by omega) _ S.bk, hm, hd, k 5 (by omega) (by omega) _ S.to, S.tod, ⟨hl, Nat.le_succ_of_le S.len.2⟩, f1, f2, S.told, hL⟩
end
theorem told_put {kt : List (Int × Value)} {T : Int → Option Int} {k z : Int} {t : Tok} (h : ∀ k, k = 1 ∨ k = 2 → ToldAt kt k (T k)) : ∀ j, j = 1 ∨ j = 2 → ToldAt (stored kt k (.int z t)) j (updI T k (some z) j) := fun j hj => by
  unfold updI
  by_cases e : j = k
  · rw [if_pos e, e]; exact ⟨t, val_put⟩
  · rw [if_neg e]
    have := h j hj
    cases e2 : T j with
    | none => rw [e2] at this; exact this.imp (fun x => (val_put_ne e).trans x) fun x => (val_put_ne e).trans x
    | some v => rw [e2] at this; obtain ⟨t, x⟩ := this; exact ⟨t, (val_put_ne e).trans x⟩
theorem told_none {kt : List (Int × Value)} {T : Int → Option Int} {k : Int} (h : ∀ k, k = 1 ∨ k = 2 → ToldAt kt k (T k)) : ∀ j, j = 1 ∨ j = 2 → ToldAt (stored kt k .none) j (updI T k none j) := fun j hj => by
  unfold updI
  by_cases e : j = k
  · rw [if_pos e, e]; exact .inr val_put
  · rw [if_neg e]
    have := h j hj
    cases e2 : T j with
    | none => rw [e2] at this; exact this.imp (fun x => (val_put_ne e).trans x) fun x => (val_put_ne e).trans x
    | some v => rw [e2] at this; obtain ⟨t, x⟩ := this; exact ⟨t, (val_put_ne e).trans x⟩
theorem last_put {kl : List (Int × Value)} {L : Int → Option Int} {k z : Int} {t : Tok} (h : ∀ k, k = 1 ∨ k = 2 → LastAt kl k (L k)) : ∀ j, j = 1 ∨ j = 2 → LastAt (stored kl k (.int z t)) j (updI L k (some z) j) := fun j hj v => by
  unfold updI
  by_cases e : j = k
  · rw [if_pos e, e]; intro e2; obtain rfl := Option.some.inj e2; exact ⟨t, val_put⟩
  · rw [if_neg e]
    intro e2
    obtain ⟨t, x⟩ := h j hj v e2
    exact ⟨t, (val_put_ne e).trans x⟩
noncomputable def setA (k : Int) (q x : Option Row) : Option Row := if k = 1 then q else x
noncomputable def setB (k : Int) (q x : Option Row) : Option Row := if k = 1 then x else q
theorem map_stored {kvs : List (Int × Value)} {k : Int} {v : Value} : (stored kvs k v).map (·.1) = if k ∈ kvs.map (·.1) then kvs.map (·.1) else kvs.map (·.1) ++ [k] := by
  unfold stored
  have e : (kvs.any fun kv => decide (kv.1 = k)) = true ↔ k ∈ kvs.map (·.1) := by simp [List.any_eq_true]
  by_cases c : k ∈ kvs.map (·.1)
  · rw [if_pos c, if_pos (e.mpr c), List.map_map]
    refine List.map_congr_left fun q _ => ?_
    by_cases e : q.1 = k <;> simp [e]
  · rw [if_neg c, if_neg (fun h => c (e.mp h))]; simp
theorem rows_put {nx nx' : Led} {kvs : List (Int × Value)} {q1 q2 : Option Row} {k : Int} {r : Row} {t : Addr} {t1 t2 : Tok} (R : Rows2 nx kvs q1 q2) (hk : k = 1 ∨ k = 2) (keep : ∀ p ∈ nx, p.2.cls = .type "tuple" → p ∈ nx') (hm : (t, tupO [.int r.fine t1, .int r.since t2, .bool r.out]) ∈ nx') :
    Rows2 nx' (stored kvs k (.ref t)) (setA k (some r) q1) (setB k (some r) q2) := by
  have hin : k ∈ kvs.map (·.1) ↔ k ∈ keysOf q1 q2 := R.ks.mem_iff.symm
  have self : RowAt nx' (stored kvs k (.ref t)) k (some r) := ⟨t, t1, t2, val_put, hm⟩
  rcases hk with rfl | rfl
  · refine ⟨self, R.r2.sub (val_put_ne (by decide)) keep, ?_⟩
    rw [map_stored]
    show (keysOf (some r) q2).Perm _
    cases q1 with
    | none =>
      rw [if_neg (by rw [hin]; cases q2 <;> simp [keysOf])]
      refine List.Perm.trans ?_ (R.ks.append_right _)
      cases q2 with
      | none => exact List.Perm.refl _
      | some b => exact List.Perm.swap _ _ _
    | some x =>
      rw [if_pos (by rw [hin]; cases q2 <;> simp [keysOf])]
      exact R.ks
  · refine ⟨R.r1.sub (val_put_ne (by decide)) keep, self, ?_⟩
    rw [map_stored]
    show (keysOf q1 (some r)).Perm _
    cases q2 with
    | none =>
      rw [if_neg (by rw [hin]; cases q1 <;> simp [keysOf])]
      refine List.Perm.trans ?_ (R.ks.append_right _)
      cases q1 <;> exact List.Perm.refl _
    | some x =>
      rw [if_pos (by rw [hin]; cases q1 <;> simp [keysOf])]
      exact R.ks
theorem rows_len {nx : Led} {kvs : List (Int × Value)} {q1 q2 : Option Row} (R : Rows2 nx kvs q1 q2) : kvs.length ≤ 100 := Nat.le_trans (Nat.le_of_lt R.len) (by decide)
theorem off_cons {own nx : Led} {t : Addr} {o : Obj} (off : OwnOff own (nx.map (·.1))) (h : ∀ p ∈ own, p.1 ≠ t) : OwnOff own (((t, o) :: nx).map (·.1)) := by
  intro p hp b hb
  rcases List.mem_cons.mp hb with rfl | hb
  · exact h p hp
  · exact off p hp b hb
section
variable {w : World} {mean : ExcName → Option Value} {mg mb : Str → Option Value} {nx own : Led} {a : Ad1} {t : St1}
noncomputable def St1.bump (t : St1) : St1 := { t with cnt := t.cnt + 1 }
theorem draw_l (many : Int) (tm : Tok) (S : LS1 w nx a t) (off : OwnOff own (nx.map (·.1))) (ok : Ad1Ok w a) (hs : 0 ≤ t.cnt ∧ t.cnt < 1000) (hm : 1 ≤ many ∧ many ≤ 100) :
    CtrL w mean mg mb 152 1 8 (nx ++ own) [.ref (a.ad 0), .int many tm] (fun r news' => ∃ v tk nx', r = .int v tk ∧ 0 ≤ v ∧ v < many ∧ news' = nx' ++ own ∧ OwnOff own (nx'.map (·.1)) ∧ LS1 w nx' a t.bump) := by
  obtain ⟨ts, nb, hb⟩ := S.box
  obtain ⟨g, U, hg⟩ := led_upd hb S.nd off
  refine Ctr.mono (law_draw_c t.cnt many ts tm U (List.mem_append_left _ S.inner) (ok.ne _ _ (by omega) (by omega) (by omega)) ok.isInts ok.len hs hm) ?_
  rintro r n ⟨v, t9, t', n', e1, e2, e3, e4⟩
  obtain ⟨nx', q1, q2, q3, q4⟩ := hg (W.listOf [Value.ref (a.ad 1), Value.int (t.cnt + 1) t'].toArray n')
  exact ⟨v, t9, nx', e1, e2, e3, by rw [e4, q1], by rw [q2]; exact off, S.draw ok hb (by rw [q2]; exact S.nd) q4 q3⟩
noncomputable def St1.setRows (t : St1) (i : Nat) (o : Obj) (kv : List (Int × Value)) (qa qb : Option Row) : St1 := { t with ob := upd t.ob i o, kv := upd t.kv i kv, qa := upd t.qa i qa, qb := upd t.qb i qb }
theorem fined_l {i : Nat} (k now : Int) (word : Str) (tk tw tn : Tok) (S : LS1 w nx a t) (off : OwnOff own (nx.map (·.1))) (ok : Ad1Ok w a) (hi : i < 3) (hk : k = 1 ∨ k = 2) (hw : IsWord word) (hok : RowOk now (rowOf (t.qa i) (t.qb i) k)) :
    CtrL w mean mg mb 102 4 32 (nx ++ own) [.ref (a.ad (i + 7)), .int k tk, .str word tw, .int now tn] (fun r news' => ∃ nx' o' kv', news' = nx' ++ own ∧ OwnOff own (nx'.map (·.1)) ∧ LS1 w nx' a (t.setRows i o' kv' (setA k (some (finR a.C a.top (wAdd a.C word) (rowOf (t.qa i) (t.qb i) k) now)) (t.qa i)) (setB k (some (finR a.C a.top (wAdd a.C word) (rowOf (t.qa i) (t.qb i) k) now)) (t.qb i))) ∧ r = .bool (finR a.C a.top (wAdd a.C word) (rowOf (t.qa i) (t.qb i) k) now).out) := by
  have D := S.D i hi
  have R := S.R i hi
  obtain ⟨g, U, hg⟩ := led_upd D.hr S.nd off
  have lw := ok.ok.word word
  have il : ∀ p ∈ nx, p ∈ nx ++ own := fun p hp => List.mem_append_left _ hp
  refine Ctr.mono (fined_c k now (wAdd a.C word) word a.C _ tk tw tn (D.mono il) U ((R.at hk).mono il) hok ok.cfg ok.ok (ok.cfg.word hw) ⟨by omega, lw.2⟩ ok.topb.1) ?_
  rintro r n ⟨T, t1, t2, o', e1, e2, e3, e4⟩
  obtain ⟨nx', q1, q2, q3, q4⟩ := hg o'
  have e3' : ∀ p ∈ nx' ++ own, p.1 < T := by rw [← q1]; exact e3
  generalize hF : finR a.C a.top (wAdd a.C word) (rowOf (t.qa i) (t.qb i) k) now = F at *
  have hFs : F.since = now := by rw [← hF]; rfl
  have nd' : (((T, tupO [.int F.fine t1, .int now t2, .bool F.out]) :: nx').map (·.1)).Nodup := by
    refine List.nodup_cons.mpr ⟨fun hm => ?_, by rw [q2]; exact S.nd⟩
    obtain ⟨p, hp, ep⟩ := List.mem_map.mp hm
    exact Nat.lt_irrefl _ (ep ▸ e3' p (List.mem_append_left _ hp))
  have hR' : Rows2 ((T, tupO [.int F.fine t1, .int now t2, .bool F.out]) :: nx') (stored (t.kv i) k (.ref T)) (setA k (some F) (t.qa i)) (setB k (some F) (t.qb i)) :=
    rows_put (t1 := t1) (t2 := t2) R hk (fun p hp hc => .tail _ (q4 p hp (ne_of_cls S.nd hp D.hr (by rw [hc, dict_cls D.hrd]; decide)))) (by rw [hFs]; exact .head _)
  exact ⟨(T, tupO [.int F.fine t1, .int now t2, .bool F.out]) :: nx', o', stored (t.kv i) k (.ref T), by rw [e1, q1]; rfl, off_cons (by rw [q2]; exact off) (fun p hp => Nat.ne_of_lt (e3' p (List.mem_append_right _ hp))),
    S.rows ok hi nd' (fun p hp hn => .tail _ (q4 p hp hn)) (.tail _ q3) e2 (rows_len hR') hR', e4⟩
theorem forget_l {i : Nat} (now : Int) (tn : Tok) (S : LS1 w nx a t) (off : OwnOff own (nx.map (·.1))) (ok : Ad1Ok w a) (hi : i < 3) (h1 : RowOk now (t.qa i)) (h2 : RowOk now (t.qb i)) :
    CtrL w mean mg mb 138 5 40 (nx ++ own) [.ref (a.ad (i + 7)), .int now tn] (fun r news' => ∃ nx' o' kv' E vs n, news' = nx' ++ ((E, W.listOf vs.toArray n) :: own) ∧ r = .ref E ∧ IntsAre vs (goneKeys a.C now (t.qa i) (t.qb i)) ∧ OwnOff ((E, W.listOf vs.toArray n) :: own) (nx'.map (·.1)) ∧ LS1 w nx' a (t.setRows i o' kv' (forgetR a.C now (t.qa i)) (forgetR a.C now (t.qb i)))) := by
  have D := S.D i hi
  have R := S.R i hi
  obtain ⟨g, U, hg⟩ := led_upd D.hr S.nd off
  have il : ∀ p ∈ nx, p ∈ nx ++ own := fun p hp => List.mem_append_left _ hp
  refine Ctr.mono' (forget_c now a.C _ _ tn (D.mono il) U (R.mono il) h1 h2 ok.cfg ok.ok (ok.ne _ _ (by omega) (by omega) (by omega)) (ok.ne _ _ (by omega) (by omega) (by omega))) ?_
  rintro r n ⟨E, vs, n9, o', e1, e2, e3, e4, e5⟩
  obtain ⟨nx', q1, q2, q3, q4⟩ := hg o'
  have hR' : Rows2 nx' ((goneKeys a.C now (t.qa i) (t.qb i)).foldl without (t.kv i)) (forgetR a.C now (t.qa i)) (forgetR a.C now (t.qb i)) :=
    rows_forget R fun p hp hc => q4 p hp (ne_of_cls S.nd hp D.hr (by rw [hc, dict_cls D.hrd]; decide))
  rw [q1] at e1 e2
  refine ⟨_, fun p hp => ?_, nx', o', _, E, vs, n9, rfl, e3, e4, ?_, S.rows ok hi (by rw [q2]; exact S.nd) q4 q3 e5 (rows_len hR') hR'⟩
  · rw [e1]
    rcases List.mem_append.mp hp with hp | hp
    · exact .tail _ (List.mem_append_left _ hp)
    · rcases List.mem_cons.mp hp with rfl | hp
      · exact .head _
      · exact .tail _ (List.mem_append_right _ hp)
  · intro p hp b hb
    rcases List.mem_cons.mp hp with rfl | hp
    · obtain ⟨q, hq, rfl⟩ := List.mem_map.mp hb
      exact (e2 q (List.mem_append_left _ hq)).symm
    · rw [q2] at hb; exact off p hp b hb
theorem reused_l {i : Nat} (now : Int) (tn : Tok) (S : LS1 w nx a t) (off : OwnOff own (nx.map (·.1))) (ok : Ad1Ok w a) (hi : i < 3) (h1 : RowOk now (t.qa i)) (h2 : RowOk now (t.qb i)) :
    CtrL w mean mg mb 133 5 40 (nx ++ own) [.ref (a.ad (i + 7)), .int now tn] (fun r news' => ∃ nx' o' kv' E vs n, news' = nx' ++ ((E, W.listOf vs.toArray n) :: own) ∧ r = .ref E ∧ IntsAre vs (reuseKeys a.C now (t.qa i) (t.qb i)) ∧ OwnOff ((E, W.listOf vs.toArray n) :: own) (nx'.map (·.1)) ∧ LS1 w nx' a (t.setRows i o' kv' (reuseR a.C now (t.qa i)) (reuseR a.C now (t.qb i)))) := by
  have D := S.D i hi
  have R := S.R i hi
  obtain ⟨g, U, hg⟩ := led_upd D.hr S.nd off
  have il : ∀ p ∈ nx, p ∈ nx ++ own := fun p hp => List.mem_append_left _ hp
  refine Ctr.mono' (reused_c now a.C _ _ tn (D.mono il) U (R.mono il) h1 h2 ok.cfg ok.ok (ok.ne _ _ (by omega) (by omega) (by omega)) (ok.ne _ _ (by omega) (by omega) (by omega))) ?_
  rintro r n ⟨E, vs, n9, o', kv', tups, e1, e2, e3, e4, J⟩
  obtain ⟨nx', q1, q2, q3, q4⟩ := hg o'
  have hl : kv'.length ≤ 100 := by
    have h := congrArg List.length J.keys
    rw [List.length_map, List.length_map] at h
    have := rows_len R
    omega
  have hRo : Rows2 (tups ++ g o') kv' (reuseR a.C now (t.qa i)) (reuseR a.C now (t.qb i)) := rows_reused (R.mono il) J
  rw [q1] at e1 e2 hRo
  have cdo := dict_cls J.hd
  have hmn : (a.ad (i + 13), o') ∈ tups ++ (nx' ++ own) := List.mem_append_right _ (List.mem_append_left _ q3)
  have lo : ∀ p ∈ own, p.1 ≠ a.ad (i + 13) := fun p hp => off p hp _ (List.mem_map.mpr ⟨_, D.hr, rfl⟩)
  have ht1 : ∀ p ∈ tups, ∀ q ∈ nx', p.1 ≠ q.1 := fun p hp q hq => by
    obtain ⟨y, hy, ey⟩ := List.mem_map.mp (show q.1 ∈ nx.map (·.1) by rw [← q2]; exact List.mem_map.mpr ⟨q, hq, rfl⟩)
    rw [← ey]; exact J.tup p hp y (il y hy)
  have nd' : ((tups ++ nx').map (·.1)).Nodup := by
    rw [List.map_append]
    refine List.nodup_append.mpr ⟨J.nd, by rw [q2]; exact S.nd, fun x hx y hy => ?_⟩
    obtain ⟨p, hp, rfl⟩ := List.mem_map.mp hx
    obtain ⟨q, hq, rfl⟩ := List.mem_map.mp hy
    exact ht1 p hp q hq
  have at' : ∀ k, (k = 1 ∨ k = 2) → RowAt (tups ++ nx') kv' k (reuseR a.C now (rowOf (t.qa i) (t.qb i) k)) := fun k hk => by
    have e := step_all (C := a.C) (t := now) (q1 := t.qa i) (q2 := t.qb i) hk
    have s := J.src k hk
    rw [e] at s
    rcases s with ⟨s1, s2⟩ | s
    · rw [s1]
      exact (R.at hk).sub s2 fun p hp hc => List.mem_append_right _ (q4 p hp (ne_of_cls S.nd hp D.hr (by rw [hc, dict_cls D.hrd]; decide)))
    · exact s.mono fun p hp => List.mem_append_left _ hp
  have hR' : Rows2 (tups ++ nx') kv' (reuseR a.C now (t.qa i)) (reuseR a.C now (t.qb i)) := ⟨at' 1 (.inl rfl), at' 2 (.inr rfl), hRo.ks⟩
  refine ⟨_, fun p hp => ?_, tups ++ nx', o', kv', E, vs, n9, rfl, e3, e4, ?_, S.rows ok hi nd' (fun p hp hn => List.mem_append_right _ (q4 p hp hn)) (List.mem_append_right _ q3) J.hd hl hR'⟩
  · rw [e1]
    rcases List.mem_append.mp hp with hp | hp
    · exact .tail _ ((List.mem_append.mp hp).elim (fun h => List.mem_append_left _ h) fun h => List.mem_append_right _ (List.mem_append_left _ h))
    · rcases List.mem_cons.mp hp with rfl | hp
      · exact .head _
      · exact .tail _ (List.mem_append_right _ (List.mem_append_right _ hp))
  · intro p hp b hb
    rcases List.mem_cons.mp hp with rfl | hp
    · obtain ⟨q, hq, rfl⟩ := List.mem_map.mp hb
      refine (e2 q ?_).symm
      exact (List.mem_append.mp hq).elim (fun h => List.mem_append_left _ h) fun h => List.mem_append_right _ (List.mem_append_left _ h)
    · rw [List.map_append, List.mem_append] at hb
      rcases hb with hb | hb
      · obtain ⟨q, hq, rfl⟩ := List.mem_map.mp hb
        exact (J.tup q hq p (List.mem_append_right _ hp)).symm
      · rw [q2] at hb; exact off p hp b hb
/-- how the three dampers stand to each other -/
structure RelQ (mv : Int) (t : St1) (q1 q2 : Option Row) : Prop where
  a0 : t.qa 0 = q1
  b0 : t.qb 0 = none
  a1 : t.qa 1 = none
  b1 : t.qb 1 = q2
  a2 : t.qa 2 = shiftR mv q1
  b2 : t.qb 2 = shiftR mv q2
structure Rel (a : Ad1) (mv now : Int) (t : St1) (q1 q2 : Option Row) : Prop extends RelQ mv t q1 q2 where
  w1 : WayOk a.C a.top now q1 (t.T 1) (t.L 1)
  w2 : WayOk a.C a.top now q2 (t.T 2) (t.L 2)
theorem told_alike_l {q1 q2 : Option Row} (now mv : Int) (tn tm : Tok) (S : LS1 w nx a t) (ok : Ad1Ok w a) (hr : Rel a mv now t q1 q2) (hn : 0 ≤ now ∧ now < 500) (hm : 0 ≤ mv ∧ mv < 100) :
    CtrL w mean mg mb 157 8 160 (nx ++ own) [.ref (a.ad 9), .ref (a.ad 2), .int now tn, .int mv tm] (fun r news' => news' = nx ++ own ∧ r = .bool true) := by
  have il : ∀ p ∈ nx, p ∈ nx ++ own := fun p hp => List.mem_append_left _ hp
  have tb := ok.topb
  have R1 := (S.R 0 (by decide)).mono il
  have R2 := (S.R 1 (by decide)).mono il
  have R3 := (S.R 2 (by decide)).mono il
  rw [hr.a0, hr.b0] at R1
  rw [hr.a1, hr.b1] at R2
  rw [hr.a2, hr.b2] at R3
  have k1 := hr.w1.ok tb.2 hn.2 (Int.le_refl _) (by omega)
  have k2 := hr.w2.ok tb.2 hn.2 (Int.le_refl _) (by omega)
  exact told_alike_c now mv a.C q1 q2 _ _ tn tm ((S.D 0 (by decide)).mono il) ((S.D 1 (by decide)).mono il) ((S.D 2 (by decide)).mono il) ok.cfg ok.ok R1 R2 R3 k1 k2 (ok_shift k1) (ok_shift k2) (il _ S.al) ok.ald ok.al1 ok.al2 ⟨hn.1, by omega⟩ hm louts2_shift pen_shift pen_shift
theorem way_out {C : Cfg} {top now : Int} {q : Option Row} {T L : Option Int} {kl : List (Int × Value)} {k : Int} (h : WayOk C top now q T L) (hC : CfgOk C) (ht : top = gpen C.reuse C.most C.half) (hl : LastAt kl k L) (ho : outR C.half C.reuse q now = true) :
    ∃ r l tl, q = some r ∧ valueAt kl k = some (.int l tl) ∧ ∀ v, Least r.fine C.reuse C.half v → r.since + v ≤ l + C.most ∧ r.since + v ≤ now + 150 ∧ ∀ z, T = some z → z = r.since + v := by
  have c1 := hC.half
  have c2 := hC.reuse
  have c3 := hC.most
  cases q with
  | none => cases ho
  | some r =>
    obtain ⟨o1, o2⟩ := Bool.and_eq_true_iff.mp ho
    obtain ⟨a1, a2, a3, a4, a5⟩ := h.row r rfl
    obtain ⟨tl, hv⟩ := hl _ (a5 o1)
    refine ⟨r, r.since, tl, rfl, hv, fun v hlv => ?_⟩
    have hd : dec r.fine C.most C.half ≤ C.reuse := Int.le_trans (dec_mono (by omega) (by rw [← ht]; exact a2)) (dec_gpen (by omega) c3.1 (by omega))
    have hle := least_le a1 c3.1 (by omega) hlv hd
    refine ⟨by omega, by omega, fun z hz => ?_⟩
    rcases h.told z hz with ⟨r', v', e, h1, h2, rfl⟩ | ⟨_, h2⟩
    · obtain rfl := Option.some.inj e
      rw [least_uniq h2 hlv]
    · have : r.out = false := h2
      rw [this] at o1; cases o1
theorem time_right_l {i : Nat} (k now : Int) (tk tn : Tok) (S : LS1 w nx a t) (off : OwnOff own (nx.map (·.1))) (ok : Ad1Ok w a) (hi : i < 3) (hk : k = 1 ∨ k = 2) (hw : WayOk a.C a.top now (rowOf (t.qa i) (t.qb i) k) (t.T k) (t.L k)) (hm : t.m ≤ 90) (hn : 0 ≤ now ∧ now < 250) :
    CtrL w mean mg mb 164 6 160 (nx ++ own) [.ref (a.ad (i + 7)), .int k tk, .ref (a.ad 3), .int now tn] (fun r news' => r = .bool true ∧ ∃ nx' oto' kt' T' m', news' = nx' ++ own ∧ OwnOff own (nx'.map (·.1)) ∧ m' ≤ t.m + 1 ∧ LS1 w nx' a { t with oto := oto', kt := kt', T := T', m := m' } ∧ (∀ j, j ≠ k → T' j = t.T j) ∧ WayOk a.C a.top now (rowOf (t.qa i) (t.qb i) k) (T' k) (t.L k)) := by
  have D := S.D i hi
  have R := S.R i hi
  obtain ⟨g, U, hg⟩ := led_upd S.to S.nd off
  have il : ∀ p ∈ nx, p ∈ nx ++ own := fun p hp => List.mem_append_left _ hp
  have tb := ok.topb
  have c1 := ok.ok.half
  refine Ctr.mono (time_right_c k now a.C _ (t.T k) tk tn (D.mono il) ((R.at hk).mono il) ok.cfg ok.ok (fun z h1 h2 => hw.ok tb.2 (by omega) h1 (by omega)) (il _ S.bk) ok.bkd ok.bk2 ok.bk1 U S.tod ok.tos (S.told k hk) (Nat.le_trans S.len.2 (by omega)) (il _ S.la) S.lad
    (fun ho => way_out hw ok.ok ok.top (S.last k hk) ho) (fun ho => hw.passed (by omega) ho) (ok.ne _ _ (by omega) (by omega) (by omega)) (ok.ne _ _ (by omega) (by omega) (by omega)) (ok.ne _ _ (by omega) (by omega) (by omega)) (ok.ne _ _ (by omega) (by omega) (by omega)) ⟨hn.1, by omega⟩) ?_
  rintro r n ⟨e1, h⟩
  refine ⟨e1, ?_⟩
  rcases h with ⟨_, e2⟩ | ⟨ho, q, v, tv, o', eq, hl, e2, hd⟩
  · exact ⟨nx, t.oto, t.kt, t.T, t.m, e2, off, Nat.le_succ _, S, fun _ _ => rfl, hw⟩
  · obtain ⟨nx', q1, q2, q3, q4⟩ := hg o'
    refine ⟨nx', o', _, updI t.T k (some (q.since + v)), t.m + 1, by rw [e2, q1], by rw [q2]; exact off, Nat.le_refl _, S.setTold ok (by rw [q2]; exact S.nd) q4 q3 hd (Nat.le_trans len_put (by have := S.len.2; omega)) (told_put S.told), fun j hj => if_neg hj, ?_⟩
    have o1 : q.out = true := by rw [eq] at ho; exact (Bool.and_eq_true_iff.mp ho).1
    refine ⟨hw.row, fun z hz => .inl ⟨q, v, eq, o1, hl, ?_⟩⟩
    unfold updI at hz
    rw [if_pos rfl] at hz
    exact (Option.some.inj hz).symm
theorem set_last {A : Around} {E : Value → Shared → Prop} {s : Shared} {h₀ : Heap} {L : Addr} {m : Str → Option Value} {Q : Unit → Shared → Prop} {k z : Int} {tk tz : Tok} (F : Fr h₀ L s.heap m) (N : News h₀ L s.heap (nx ++ own)) (S : LS1 w nx a t) (off : OwnOff own (nx.map (·.1))) (ok : Ad1Ok w a) (hm : t.m ≤ 90)
    (h : ∀ h' nx' ola' kl', Fr h₀ L h' m → News h₀ L h' (nx' ++ own) → OwnOff own (nx'.map (·.1)) → LS1 w nx' a { t with ola := ola', kl := kl', L := updI t.L k (some z), m := t.m + 1 } → Q () { s with heap := h', toks := s.toks + 1 }) :
    wpAny (model Mine.XL.row.prog w) A (setItem (.ref (a.ad 4)) (.int k tk) (.int z tz)) Q E s := by
  obtain ⟨g, U, hg⟩ := led_upd S.la S.nd off
  refine kda_set (knd := PySem.intKind _ _) F N U S.lad (intKind_is _ _ _ _) (by rw [sizeLine_eq]; have := S.len.1; omega) fun h' o' F' N' hd => ?_
  obtain ⟨nx', q1, q2, q3, q4⟩ := hg o'
  rw [q1] at N'
  exact h h' nx' o' _ F' N' (by rw [q2]; exact off) (S.setLast ok (by rw [q2]; exact S.nd) q4 q3 hd (Nat.le_trans len_put (by have := S.len.1; omega)) (last_put S.last))
theorem set_told {A : Around} {E : Value → Shared → Prop} {s : Shared} {h₀ : Heap} {L : Addr} {m : Str → Option Value} {Q : Unit → Shared → Prop} {k : Int} {tk : Tok} (F : Fr h₀ L s.heap m) (N : News h₀ L s.heap (nx ++ own)) (S : LS1 w nx a t) (off : OwnOff own (nx.map (·.1))) (ok : Ad1Ok w a) (hm : t.m ≤ 90)
    (h : ∀ h' nx' oto' kt', Fr h₀ L h' m → News h₀ L h' (nx' ++ own) → OwnOff own (nx'.map (·.1)) → LS1 w nx' a { t with oto := oto', kt := kt', T := updI t.T k none, m := t.m + 1 } → Q () { s with heap := h', toks := s.toks + 1 }) :
    wpAny (model Mine.XL.row.prog w) A (setItem (.ref (a.ad 5)) (.int k tk) .none) Q E s := by
  obtain ⟨g, U, hg⟩ := led_upd S.to S.nd off
  refine kda_set (knd := PySem.intKind _ _) F N U S.tod (intKind_is _ _ _ _) (by rw [sizeLine_eq]; have := S.len.2; omega) fun h' o' F' N' hd => ?_
  obtain ⟨nx', q1, q2, q3, q4⟩ := hg o'
  rw [q1] at N'
  exact h h' nx' o' _ F' N' (by rw [q2]; exact off) (S.setTold ok (by rw [q2]; exact S.nd) q4 q3 hd (Nat.le_trans len_put (by have := S.len.2; omega)) (told_none S.told))
end
theorem fin_facts {C : Cfg} {top add now : Int} {q : Option Row} {T L : Option Int} (hC : CfgOk C) (ht : top = gpen C.reuse C.most C.half) (h : WayOk C top now q T L) (ha : 0 ≤ add) (hn : 0 ≤ now) :
    outR C.half C.reuse (some (finR C top add q now)) now = (finR C top add q now).out ∧ penR C.half (some (finR C top add q now)) now ≤ top ∧ penR C.half (some (finR C top add q now)) (now + C.most) ≤ C.reuse := by
  have c1 := hC.half
  have c2 := hC.reuse
  have c3 := hC.most
  have c4 := hC.suppress
  have t0 : 0 ≤ top := by rw [ht]; exact gpen_nn1 (by omega) c3.1 (by omega)
  have hf := (h.fined (add := add) (by omega) t0 ha hn).row _ rfl
  have e0 : penR C.half (some (finR C top add q now)) now = (finR C top add q now).fine := by
    show dec _ (now - now) C.half = _
    rw [Int.sub_self, dec_zero (by omega)]
  refine ⟨?_, by rw [e0]; exact hf.2.1, ?_⟩
  · show ((finR C top add q now).out && decide (C.reuse < penR C.half (some (finR C top add q now)) now)) = (finR C top add q now).out
    rw [e0]
    show (((outR C.half C.reuse q now && decide (C.reuse < min top (penR C.half q now + add))) || decide (C.suppress ≤ min top (penR C.half q now + add))) && decide (C.reuse < min top (penR C.half q now + add))) = ((outR C.half C.reuse q now && decide (C.reuse < min top (penR C.half q now + add))) || decide (C.suppress ≤ min top (penR C.half q now + add)))
    by_cases c : C.reuse < min top (penR C.half q now + add)
    · rw [decide_eq_true c]; simp
    · rw [decide_eq_false c, decide_eq_false (show ¬ C.suppress ≤ min top (penR C.half q now + add) by omega)]; simp
  · show dec (finR C top add q now).fine (now + C.most - now) C.half ≤ C.reuse
    rw [show now + C.most - now = C.most by omega]
    exact Int.le_trans (dec_mono (by omega) (by rw [← ht]; exact hf.2.1)) (dec_gpen (by omega) c3.1 (by omega))
theorem qa_two {t : St1} {i : Nat} {o : Obj} {kv : List (Int × Value)} {a b : Option Row} (hi : i < 2) : (t.setRows i o kv a b).qa 2 = t.qa 2 ∧ (t.setRows i o kv a b).qb 2 = t.qb 2 := by
  have h : 2 ≠ i := by omega
  exact ⟨if_neg h, if_neg h⟩
theorem row_set {t : St1} {i : Nat} {k : Int} {o1 o2 : Obj} {v1 v2 : List (Int × Value)} {x a0 b0 a2 b2 : Option Row} (hi : i < 2) : rowOf (((t.setRows i o1 v1 (setA k x a0) (setB k x b0)).setRows 2 o2 v2 a2 b2).qa i) (((t.setRows i o1 v1 (setA k x a0) (setB k x b0)).setRows 2 o2 v2 a2 b2).qb i) k = x := by
  have h : i ≠ 2 := by omega
  have e1 : ((t.setRows i o1 v1 (setA k x a0) (setB k x b0)).setRows 2 o2 v2 a2 b2).qa i = setA k x a0 := (if_neg h).trans (if_pos rfl)
  have e2 : ((t.setRows i o1 v1 (setA k x a0) (setB k x b0)).setRows 2 o2 v2 a2 b2).qb i = setB k x b0 := (if_neg h).trans (if_pos rfl)
  rw [e1, e2]
  unfold rowOf setA setB
  split <;> rfl
theorem fined_right_g {w : World} {mean : ExcName → Option Value} {mg mb : Str → Option Value} {nx own : Led} {u : Ad1} {t : St1} {i : Nat} {k : Int} {q : Option Row} {Tq Lq : Option Int} (now mv : Int) (word : Str) (tk tw tn tm : Tok) (hi : i < 2) (hwy : k = 1 ∨ k = 2) (S : LS1 w nx u t) (off : OwnOff own (nx.map (·.1))) (ok : Ad1Ok w u) (wq : WayOk u.C u.top now q Tq Lq) (hq1 : rowOf (t.qa i) (t.qb i) k = q) (hq2 : rowOf (t.qa 2) (t.qb 2) k = shiftR mv q) (hw : IsWord word) (hn : 0 ≤ now ∧ now < 250) (hm : 0 ≤ mv ∧ mv < 100) :
    CtrL w mean mg mb 171 6 160 (nx ++ own) [.ref (u.ad 9), .ref (u.ad (i + 7)), .int k tk, .str word tw, .int now tn, .int mv tm] (fun r news' => r = .bool true ∧ ∃ nx' o1 v1 o2 v2, news' = nx' ++ own ∧ OwnOff own (nx'.map (·.1)) ∧
      LS1 w nx' u ((t.setRows i o1 v1 (setA k (some (finR u.C u.top (wAdd u.C word) q now)) (t.qa i)) (setB k (some (finR u.C u.top (wAdd u.C word) q now)) (t.qb i))).setRows 2 o2 v2 (setA k (shiftR mv (some (finR u.C u.top (wAdd u.C word) q now))) (t.qa 2)) (setB k (shiftR mv (some (finR u.C u.top (wAdd u.C word) q now))) (t.qb 2)))) := by
  (w_top off; k_with_none; (k_with "my updF" => (first | assumption | exact UpdF.tail (my_ne (by assumption) (by assumption)) (by assumption))); (k_with "my upd" => (exact updF_upd (by assumption) _)); (k_with "my mem" => (first | exact updF_new (by assumption) _ | exact updF_old (by assumption) (by assumption) (by assumption) | (refine List.mem_cons_of_mem _ ?_; k_mem) | (refine List.mem_append_right _ ?_; k_mem))); (k_with "my islist" => (exact News.isList (by k_asm) (by k_mem))); (k_with "my fact" => (first | assumption | trivial | omega | (refine ⟨?_, ?_⟩ <;> omega) | ((try dsimp only); first | assumption | omega | l_fact))); (k_with "compareOp In int ref" => ((k_here; k_dflt (refine my_in (by k_asm) (by k_mem) (by k_asm) (by k_asm) _ (by assumption) ?_); (try dsimp only)))); (k_with "subscriptTail" => ((k_here; k_dflt (first
  | ((with_reducible show wpAny _ _ (subscriptTail _ _ (Value.ref _) (Value.str _ _)) _ _ _); refine kda_item (knd := PySem.strKind _ _) (by k_asm) (by k_mem) (by k_asm) (strKind_is _ _ _ _) (by assumption) ?_; (try dsimp only))
  | ((with_reducible show wpAny _ _ (subscriptTail _ _ (Value.ref _) (Value.int _ _)) _ _ _); refine kda_item (knd := PySem.intKind _ _) (by k_asm) (by k_mem) (by k_asm) (intKind_is _ _ _ _) (by assumption) ?_; (try dsimp only)))))); (k_with "my sub" => (intro p9 hp9; repeat (first | exact hp9 | assumption | refine List.mem_cons_of_mem _ ?_ | refine List.mem_append_right _ ?_))); (k_with "call ref" => ((k_here; (with_reducible show wpAny _ _ (call (Value.ref 109) _) _ _ _); k_dflt (refine Ctr.cVal (by k_asm) (by k_asm) (by k_asm) (by k_asm) (by k_asm) (by first | exact rfl | assumption) (by (first | exact room3 (by assumption) (by rfl) | exact room2 (by assumption) (by rfl) | exact room1 (by assumption) | exact Nat.le_of_ble_eq_true rfl | ktr_room)) (by first | (first | exact room3 (by assumption) (by rfl) | exact room2 (by assumption) (by rfl) | exact room1 (by assumption) | exact Nat.le_of_ble_eq_true rfl | ktr_units) | exact Nat.le_of_ble_eq_true rfl | (have hcL9 := cLine_is; (try simp only [units_under_make, units_in1, units_deeper, Around.mark_units, units_caller] at *); (try dsimp only [ktrTop] at *); omega)) (is_left_out_c _ _ _ _ _ _ _ (by first | assumption | exact DmpAt.mono (by assumption) (by walk_at "my sub")) (by assumption) (by assumption) (by assumption) (by first | assumption | exact RowAt.mono (by assumption) (by walk_at "my sub")) (by assumption)) ?_); k_whole); intro h9 tk9 F9 N9; (try dsimp only); (try k_fold))); (k_with "call ref" => ((k_here; (with_reducible show wpAny _ _ (call (Value.ref 95) _) _ _ _); k_dflt (refine Ctr.cInt (by k_asm) (by k_asm) (by k_asm) (by k_asm) (by k_asm) (by first | exact rfl | assumption) (by (first | exact room3 (by assumption) (by rfl) | exact room2 (by assumption) (by rfl) | exact room1 (by assumption) | exact Nat.le_of_ble_eq_true rfl | ktr_room)) (by first | (first | exact room3 (by assumption) (by rfl) | exact room2 (by assumption) (by rfl) | exact room1 (by assumption) | exact Nat.le_of_ble_eq_true rfl | ktr_units) | exact Nat.le_of_ble_eq_true rfl | (have hcL9 := cLine_is; (try simp only [units_under_make, units_in1, units_deeper, Around.mark_units, units_caller] at *); (try dsimp only [ktrTop] at *); omega)) (penalty_c _ _ _ _ _ _ (by first | assumption | exact DmpAt.mono (by assumption) (by walk_at "my sub")) (by assumption) (by assumption) (by first | assumption | exact RowAt.mono (by assumption) (by walk_at "my sub")) (by assumption)) ?_); k_whole); intro h9 tk9 t9 F9 N9; (try dsimp only); (try k_fold))); (k_with "call ref" => ((k_here; (with_reducible show wpAny _ _ (call (Value.ref 102) _) _ _ _); refine Stop.mk ?_))))
  have tb := ok.topb
  have c1 := ok.ok.half
  have c3 := ok.ok.most
  have cm := ok.most
  have lw := ok.ok.word word
  have a1 := ok.cfg.half
  have a3 := ok.cfg.reuse
  obtain ⟨th3, b3⟩ := ok.cfg.reuse
  obtain ⟨th4, b4⟩ := ok.cfg.most
  have o1 : 1 ≤ u.C.half ∧ u.C.half ≤ 5 := ⟨by omega, by omega⟩
  have k1 := wq.ok tb.2 (by omega) (Int.le_refl _) (by omega)
  have wf := wq.fined (add := wAdd u.C word) (by omega) tb.1 (by omega) hn.1
  refine ex0_3 (fin_facts (add := wAdd u.C word) ok.ok ok.top wq (by omega) hn.1) fun f1 f2 f3 => ?_
  have y1 := wf.ok tb.2 (t := now) (by omega) (by omega) (by omega)
  have y2 := wf.ok tb.2 (t := now + u.C.most) (by omega) (by omega) (by omega)
  (unfold CtrL Ctr; k_fill; intro dp un gd cn cs a ccd cl outer A₀ base h₀ L m s0 Q E B F X N T hk hd hu hret; refine wpAny_call ?_; k_dflt ktr_enter; refine e_never ?_)
  have il : ∀ p ∈ nx, p ∈ nx ++ own := fun p hp => List.mem_append_left _ hp
  have D9 := (S.D i (by omega)).mono il
  have DJ := (S.D 2 (by decide)).mono il
  have md1 : (u.ad (i + 7), instObj 141 _) ∈ nx ++ own := D9.hd
  refine ex7_1 (D9.hx) fun x11 y11 x12 y12 x13 y13 y14 mx1 => ?_
  have md2 : (u.ad 9, instObj 141 _) ∈ nx ++ own := DJ.hd
  refine ex7_1 (DJ.hx) fun x21 y21 x22 y22 x23 y23 y24 mx2 => ?_
  k_steps
  refine Stop.go ?_
  refine Ctr.cFin (by k_asm) (by k_asm) (by k_asm) (by k_asm) (by k_asm) (by first | exact rfl | assumption) (by (first | exact room3 (by assumption) (by rfl) | exact room2 (by assumption) (by rfl) | exact room1 (by assumption) | exact Nat.le_of_ble_eq_true rfl | ktr_room)) (by first | (first | exact room3 (by assumption) (by rfl) | exact room2 (by assumption) (by rfl) | exact room1 (by assumption) | exact Nat.le_of_ble_eq_true rfl | ktr_units) | exact Nat.le_of_ble_eq_true rfl) (fined_l (i := i) k now word tk tw tn S off ok (by omega) hwy hw (by rw [hq1]; exact k1)) ?_
  intro h9 tk9 nx1 ob1 kv1 off1 S1 F9 N9
  rw [hq1] at S1
  rw [hq1]
  have e9 := fin_shift (C := u.C) (top := u.top) (add := wAdd u.C word) (mv := mv) (t := now) (q := q)
  generalize hFF : finR u.C u.top (wAdd u.C word) q now = FF at S1 wf f1 f2 f3 y1 y2 e9 ⊢
  have e10 : finR u.C u.top (wAdd u.C word) (shiftR mv q) (now + mv) = { FF with since := FF.since + mv } := Option.some.inj e9
  clear D9 DJ md1 md2 mx1 mx2
  have il1 : ∀ p ∈ nx1, p ∈ nx1 ++ own := fun p hp => List.mem_append_left _ hp
  have D7 := (S1.D i (by omega)).mono il1
  have DJ := (S1.D 2 (by decide)).mono il1
  have md1 : (u.ad (i + 7), instObj 141 _) ∈ nx1 ++ own := D7.hd
  refine ex7_1 (D7.hx) fun x11 y11 x12 y12 x13 y13 y14 mx1 => ?_
  have md2 : (u.ad 9, instObj 141 _) ∈ nx1 ++ own := DJ.hd
  refine ex7_1 (DJ.hx) fun x21 y21 x22 y22 x23 y23 y24 mx2 => ?_
  (try dsimp only)
  k_steps
  refine Stop.go ?_
  refine Ctr.cFin (by k_asm) (by k_asm) (by k_asm) (by k_asm) (by k_asm) (by first | exact rfl | assumption) (by (first | exact room3 (by assumption) (by rfl) | exact room2 (by assumption) (by rfl) | exact room1 (by assumption) | exact Nat.le_of_ble_eq_true rfl | ktr_room)) (by first | (first | exact room3 (by assumption) (by rfl) | exact room2 (by assumption) (by rfl) | exact room1 (by assumption) | exact Nat.le_of_ble_eq_true rfl | ktr_units) | exact Nat.le_of_ble_eq_true rfl) (fined_l (i := 2) k (now + mv) word _ _ _ S1 off1 ok (by decide) hwy hw (by rw [(qa_two hi).1, (qa_two hi).2, hq2]; exact ok_shift k1)) ?_
  intro h9 tk9 nx2 ob2 kv2 off2 S2 F9 N9
  rw [(qa_two hi).1, (qa_two hi).2, hq2, e9] at S2
  rw [(qa_two hi).1, (qa_two hi).2, hq2, e10]
  clear D7 DJ md1 md2 mx1 mx2
  have il2 : ∀ p ∈ nx2, p ∈ nx2 ++ own := fun p hp => List.mem_append_left _ hp
  have D8 := (S2.D i (by omega)).mono il2
  have R8 := ((S2.R i (by omega)).at hwy).mono il2
  rw [row_set hi] at R8
  have md1 : (u.ad (i + 7), instObj 141 _) ∈ nx2 ++ own := D8.hd
  refine ex7_1 (D8.hx) fun x11 y11 x12 y12 x13 y13 y14 mx1 => ?_
  have mc := D8.hc
  have mcd := D8.hcd
  (try dsimp only)
  k_steps
  all_goals first
    | (exfalso; omega)
    | (exfalso; simp_all; done)
    | ((rename Fr _ _ _ _ => fF); (rename News _ _ _ _ => fN); subst hFF
       exact hret _ _ _ _ fF fN ⟨congrArg Value.bool (decide_eq_true f3), nx2, _, _, _, _, rfl, off2, S2⟩)
noncomputable def lawStmt : Stmt := (PySem.Challenge.pw_sj0173_01.main.body.getLast?).getD (.Pass ⟨0, 0, 0, 0⟩)
noncomputable def bodyOf : Stmt → List Stmt
  | .FunctionDef _ _ b _ _ _ _ _ _ _ => b
  | _ => []
noncomputable def scopeOf : Stmt → Scope
  | .FunctionDef _ _ _ _ _ _ s _ _ _ => s
  | _ => default
noncomputable abbrev lawScope : Scope := scopeOf lawStmt
noncomputable abbrev lawBody : List Stmt := bodyOf lawStmt
section
variable {prog : Program} {w : World} {A : Around} {E : Value → Shared → Prop} {s : Shared} {h₀ : Heap} {L d : Addr} {o : Obj} {m : Str → Option Value} {news : Led} {kvs : List (Int × Value)} {Q : Value → Shared → Prop}
theorem my_list_keys (hh : A.handled = none) (F : Fr h₀ L s.heap m) (N : News h₀ L s.heap news) (hp : (d, o) ∈ news) (hd : o.IsDictOf (PySem.intKind prog w) kvs) (lo : (d == sysModules) = false) (hn : kvs.length < 64)
    (h : ∀ D vs c h' tk, Fr h₀ L h' m → News h₀ L h' ((D, W.listOf vs.toArray c) :: news) → (∀ q ∈ news, q.1 < D) → IntsAre vs (kvs.map (·.1)) → Q (.ref D) { s with heap := h', toks := tk }) :
    wpAny (model prog w) A (call (.type "list") [.ref d]) Q E s := by
  obtain ⟨ep, hat⟩ := (kda_dict N hp hd).dictAt
  exact kdl_N (kdl_dict (knd := PySem.intKind prog w) (kvs := kvs) (ep := ep) lo) hh F N hat (kdl_size (by omega)) fun D c h' tk vs F' N' l1 hl hv => h D vs c h' tk F' N' l1 (ints_of (prog := prog) (w := w) hl hv)
end
theorem keysOf_shift {mv : Int} {q1 q2 : Option Row} : keysOf (shiftR mv q1) (shiftR mv q2) = keysOf q1 q2 := keysOf_same (by cases q1 <;> rfl) (by cases q2 <;> rfl)
theorem keys_join {nx : Led} {k1 k2 : List (Int × Value)} {q1 q2 : Option Row} {ns : List Int} (R0 : Rows2 nx k1 q1 none) (R1 : Rows2 nx k2 none q2) (hp : ns.Perm (k1.map (·.1) ++ k2.map (·.1))) (hs : ns.Pairwise (· ≤ ·)) : ns = keysOf q1 q2 := by
  refine lks_uniq ((hp.trans ?_).trans (List.Perm.refl _)) hs (keysOf_sorted q1 q2)
  refine (R0.ks.symm.append R1.ks.symm).trans ?_
  have e : keysOf q1 none ++ keysOf none q2 = keysOf q1 q2 := by unfold keysOf; simp
  rw [e]
structure TailK (w : World) (a : Ad1) (mv : Int) (tm : Tok) (i : Nat) (m : Str → Option Value) (nx : Led) (t : St1) (q1 q2 : Option Row) (now : Int) (tn : Tok) : Prop where
  m1 : m (Str.ofString "box") = some (.ref (a.ad 0))
  m2 : m (Str.ofString "joint") = some (.ref (a.ad 9))
  m3 : m (Str.ofString "alone") = some (.ref (a.ad 2))
  m4 : m (Str.ofString "book") = some (.ref (a.ad 3))
  m5 : m (Str.ofString "move") = some (.int mv tm)
  m6 : m (Str.ofString "now") = some (.int now tn)
  S : LS1 w nx a t
  r : Rel a mv now t q1 q2
  hc : 0 ≤ t.cnt ∧ t.cnt ≤ 10 + 3 * i
  hn : 0 ≤ now ∧ now ≤ 4 * i
  hm : t.m ≤ 6 * i
noncomputable def TailI1 (w : World) (a : Ad1) (mv : Int) (tm : Tok) (i : Nat) (m : Str → Option Value) (nx : Led) : Prop := ∃ t q1 q2 now tn, TailK w a mv tm i m nx t q1 q2 now tn
noncomputable def lmap (a : Ad1) (mv : Int) (tm : Tok) (now : Int) (tn : Tok) (m : Str → Option Value) : Str → Option Value := fun y => if y = Str.ofString "box" then some (.ref (a.ad 0)) else if y = Str.ofString "joint" then some (.ref (a.ad 9)) else if y = Str.ofString "alone" then some (.ref (a.ad 2)) else if y = Str.ofString "book" then some (.ref (a.ad 3)) else if y = Str.ofString "move" then some (.int mv tm) else if y = Str.ofString "now" then some (.int now tn) else m y
theorem TailK.map0 {w : World} {a : Ad1} {mv : Int} {tm : Tok} {i : Nat} {m : Str → Option Value} {nx : Led} {t : St1} {q1 q2 : Option Row} {now : Int} {tn : Tok} (J : TailK w a mv tm i m nx t q1 q2 now tn) :
    m = fun y => if y = Str.ofString "box" then some (.ref (a.ad 0)) else if y = Str.ofString "joint" then some (.ref (a.ad 9)) else if y = Str.ofString "alone" then some (.ref (a.ad 2)) else if y = Str.ofString "book" then some (.ref (a.ad 3)) else if y = Str.ofString "move" then some (.int mv tm) else if y = Str.ofString "now" then some (.int now tn) else m y := by
  funext y
  by_cases e1 : y = Str.ofString "box"
  · rw [if_pos e1, e1, J.m1]
  · rw [if_neg e1]
    by_cases e2 : y = Str.ofString "joint"
    · rw [if_pos e2, e2, J.m2]
    · rw [if_neg e2]
      by_cases e3 : y = Str.ofString "alone"
      · rw [if_pos e3, e3, J.m3]
      · rw [if_neg e3]
        by_cases e4 : y = Str.ofString "book"
        · rw [if_pos e4, e4, J.m4]
        · rw [if_neg e4]
          by_cases e5 : y = Str.ofString "move"
          · rw [if_pos e5, e5, J.m5]
          · rw [if_neg e5]
            by_cases e6 : y = Str.ofString "now"
            · rw [if_pos e6, e6, J.m6]
            · rw [if_neg e6]
theorem TailK.map {w : World} {a : Ad1} {mv : Int} {tm : Tok} {i : Nat} {m : Str → Option Value} {nx : Led} {t : St1} {q1 q2 : Option Row} {now : Int} {tn : Tok} (J : TailK w a mv tm i m nx t q1 q2 now tn) :
    m = lmap a mv tm now tn m := J.map0
noncomputable def IsDeed (x : Str) : Prop := IsWord x ∨ x = Str.ofString "usable" ∨ x = Str.ofString "old"
theorem my_deed {prog : Program} {w : World} {A : Around} {E : Value → Shared → Prop} {s : Shared} {h₀ : Heap} {L lw : Addr} {news : Led} {value slice : PySem.Expr} {a b c d e f g : Tok} {n : Nat} {k : Int} {u : Tok} {Q : Value → Shared → Prop} (N : News h₀ L s.heap news)
    (hm : (lw, W.listOf [.str (Str.ofString "withdrawn") a, .str (Str.ofString "withdrawn") b, .str (Str.ofString "changed") c, .str (Str.ofString "again") d, .str (Str.ofString "usable") e, .str (Str.ofString "old") f, .str (Str.ofString "changed") g].toArray n) ∈ news) (h0 : 0 ≤ k) (h7 : k < 7) (h : ∀ x t, IsDeed x → Q (.str x t) s)
    (hs : subscripted slice false (.ref lw) (.int k u) = operate [.ref lw, .int k u] (getItem (.ref lw) (.int k u))) :
    wpAny (model prog w) A (subscriptTail value slice (.ref lw) (.int k u)) Q E s := by
  have hl := News.isList N hm
  have e : k = 0 ∨ k = 1 ∨ k = 2 ∨ k = 3 ∨ k = 4 ∨ k = 5 ∨ k = 6 := by omega
  rcases e with rfl | rfl | rfl | rfl | rfl | rfl | rfl
  · exact item_litK hl (by decide) (by decide) rfl (h _ _ (.inl (.inl rfl))) hs
  · exact item_litK hl (by decide) (by decide) rfl (h _ _ (.inl (.inl rfl))) hs
  · exact item_litK hl (by decide) (by decide) rfl (h _ _ (.inl (.inr (.inl rfl)))) hs
  · exact item_litK hl (by decide) (by decide) rfl (h _ _ (.inl (.inr (.inr rfl)))) hs
  · exact item_litK hl (by decide) (by decide) rfl (h _ _ (.inr (.inl rfl))) hs
  · exact item_litK hl (by decide) (by decide) rfl (h _ _ (.inr (.inr rfl))) hs
  · exact item_litK hl (by decide) (by decide) rfl (h _ _ (.inl (.inr (.inl rfl)))) hs
theorem Rel.later {a : Ad1} {mv now now' : Int} {t : St1} {q1 q2 : Option Row} (h : Rel a mv now t q1 q2) (k : now ≤ now') : Rel a mv now' t q1 q2 := ⟨h.toRelQ, h.w1.later k, h.w2.later k⟩
theorem own_cons {own nx : Led} {l : Addr} {o : Obj} (off : OwnOff own (nx.map (·.1))) (h : ∀ p ∈ nx, p.1 ≠ l) : OwnOff ((l, o) :: own) (nx.map (·.1)) := by
  intro p hp b hb
  rcases List.mem_cons.mp hp with rfl | hp
  · obtain ⟨q, hq, rfl⟩ := List.mem_map.mp hb
    exact (h q hq).symm
  · exact off p hp b hb
theorem sub_mid {own nx : Led} {p : Addr × Obj} : ∀ q ∈ nx ++ (p :: own), q ∈ p :: (nx ++ own) := fun q hq => by
  rcases List.mem_append.mp hq with h | h
  · exact .tail _ (List.mem_append_left _ h)
  · rcases List.mem_cons.mp h with rfl | h
    · exact .head _
    · exact .tail _ (List.mem_append_right _ h)
theorem sub_out {own nx : Led} {p : Addr × Obj} : ∀ q ∈ nx ++ own, q ∈ nx ++ (p :: own) := fun _ hq => (List.mem_append.mp hq).elim (fun h => List.mem_append_left _ h) fun h => List.mem_append_right _ (.tail _ h)
/-- what holds behind the deed -/
noncomputable def MidP (w : World) (h₀ : Heap) (L : Addr) (s₀ : Shared) (own : Led) (mm : Str → Option Value) (a : Ad1) (mv now cnt : Int) (m : Nat) (f : Flow) (s' : Shared) : Prop :=
  f = Flow.next ∧ ∃ h tk nx' t' q1' q2' m9, s' = { heap := h, gens := s₀.gens, drawn := s₀.drawn, toks := tk, os := s₀.os } ∧ Fr h₀ L h m9 ∧ (∀ z, z ≠ Str.ofString "some" → z ≠ Str.ofString "others" → m9 z = mm z) ∧ News h₀ L h (nx' ++ own) ∧ OwnOff own (nx'.map (·.1)) ∧ LS1 w nx' a t' ∧ Rel a mv now t' q1' q2' ∧ t'.cnt = cnt ∧ t'.m ≤ m + 2
theorem LS1.raw {w : World} {nx : Led} {a : Ad1} {t : St1} (S : LS1 w nx a t) (own : Led) : (a.ad 2, a.oal) ∈ nx ++ own ∧ (a.ad 3, a.obk) ∈ nx ++ own ∧ (a.ad 7, instObj 141 (a.ad 10)) ∈ nx ++ own ∧ (a.ad 8, instObj 141 (a.ad 11)) ∈ nx ++ own ∧ (a.ad 9, instObj 141 (a.ad 12)) ∈ nx ++ own ∧
    (∃ x1 y1 x2 y2 x3 y3 y4, (a.ad 10, dictOf [⟨x1, .str (Str.ofString "config") y1, .ref (a.ad 6)⟩, ⟨x2, .str (Str.ofString "rows") y2, .ref (a.ad 13)⟩, ⟨x3, .str (Str.ofString "top") y3, .int a.top y4⟩] 3) ∈ nx ++ own) ∧
    (∃ x1 y1 x2 y2 x3 y3 y4, (a.ad 11, dictOf [⟨x1, .str (Str.ofString "config") y1, .ref (a.ad 6)⟩, ⟨x2, .str (Str.ofString "rows") y2, .ref (a.ad 14)⟩, ⟨x3, .str (Str.ofString "top") y3, .int a.top y4⟩] 3) ∈ nx ++ own) ∧
    (∃ x1 y1 x2 y2 x3 y3 y4, (a.ad 12, dictOf [⟨x1, .str (Str.ofString "config") y1, .ref (a.ad 6)⟩, ⟨x2, .str (Str.ofString "rows") y2, .ref (a.ad 15)⟩, ⟨x3, .str (Str.ofString "top") y3, .int a.top y4⟩] 3) ∈ nx ++ own) := by
  have il : ∀ p ∈ nx, p ∈ nx ++ own := fun p hp => List.mem_append_left _ hp
  have D0 := (S.D 0 (by decide)).mono il
  have D1 := (S.D 1 (by decide)).mono il
  have D2 := (S.D 2 (by decide)).mono il
  exact ⟨il _ S.al, il _ S.bk, D0.hd, D1.hd, D2.hd, D0.hx, D1.hx, D2.hx⟩
theorem LS1.rawK {w : World} {nx : Led} {a : Ad1} {t : St1} (S : LS1 w nx a t) (own : Led) {P : Prop} (k : (a.ad 2, a.oal) ∈ nx ++ own → (a.ad 3, a.obk) ∈ nx ++ own → (a.ad 7, instObj 141 (a.ad 10)) ∈ nx ++ own → (a.ad 8, instObj 141 (a.ad 11)) ∈ nx ++ own → (a.ad 9, instObj 141 (a.ad 12)) ∈ nx ++ own →
    (∀ x1 y1 x2 y2 x3 y3 y4, (a.ad 10, dictOf [⟨x1, .str (Str.ofString "config") y1, .ref (a.ad 6)⟩, ⟨x2, .str (Str.ofString "rows") y2, .ref (a.ad 13)⟩, ⟨x3, .str (Str.ofString "top") y3, .int a.top y4⟩] 3) ∈ nx ++ own →
    ∀ x1 y1 x2 y2 x3 y3 y4, (a.ad 11, dictOf [⟨x1, .str (Str.ofString "config") y1, .ref (a.ad 6)⟩, ⟨x2, .str (Str.ofString "rows") y2, .ref (a.ad 14)⟩, ⟨x3, .str (Str.ofString "top") y3, .int a.top y4⟩] 3) ∈ nx ++ own →
    ∀ x1 y1 x2 y2 x3 y3 y4, (a.ad 12, dictOf [⟨x1, .str (Str.ofString "config") y1, .ref (a.ad 6)⟩, ⟨x2, .str (Str.ofString "rows") y2, .ref (a.ad 15)⟩, ⟨x3, .str (Str.ofString "top") y3, .int a.top y4⟩] 3) ∈ nx ++ own → P)) : P := by
  obtain ⟨ra1, ra2, ra3, ra4, ra5, ⟨rb1, rb2, rb3, rb4, rb5, rb6, rb7, ra6⟩, ⟨rc1, rc2, rc3, rc4, rc5, rc6, rc7, ra7⟩, ⟨rd1, rd2, rd3, rd4, rd5, rd6, rd7, ra8⟩⟩ := S.raw own
  exact k ra1 ra2 ra3 ra4 ra5 _ _ _ _ _ _ _ ra6 _ _ _ _ _ _ _ ra7 _ _ _ _ _ _ _ ra8
theorem TailI1.elim {w : World} {a : Ad1} {mv : Int} {tm : Tok} {i : Nat} {m : Str → Option Value} {nx : Led} (h : TailI1 w a mv tm i m nx) {P : Prop} (k : ∀ t q1 q2 now tn, TailK w a mv tm i m nx t q1 q2 now tn → P) : P := by
  obtain ⟨t, q1, q2, now, tn, J⟩ := h
  exact k t q1 q2 now tn J
theorem MidP.elim {w : World} {h₀ : Heap} {L : Addr} {s₀ : Shared} {own : Led} {mm : Str → Option Value} {a : Ad1} {mv now cnt : Int} {m : Nat} {R : Flow → Shared → Prop} {f : Flow} {s' : Shared} (q : MidP w h₀ L s₀ own mm a mv now cnt m f s')
    (k : ∀ h tk nx' t' q1' q2' m9, Fr h₀ L h m9 → (∀ z, z ≠ Str.ofString "some" → z ≠ Str.ofString "others" → m9 z = mm z) → News h₀ L h (nx' ++ own) → OwnOff own (nx'.map (·.1)) → LS1 w nx' a t' → Rel a mv now t' q1' q2' → t'.cnt = cnt → t'.m ≤ m + 2 → R Flow.next { heap := h, gens := s₀.gens, drawn := s₀.drawn, toks := tk, os := s₀.os }) : R f s' := by
  obtain ⟨rfl, h6, tk6, nx6, t6, p1, p2, m6, rfl, F6, hm6, N6, o6, S6, r6, hc6, hu6⟩ := q
  exact k _ _ _ _ _ _ _ F6 hm6 N6 o6 S6 r6 hc6 hu6
theorem mid_mono {M : Model} {A : Around} {tr : Sem Flow} {E : Value → Shared → Prop} {s : Shared} {R : Flow → Shared → Prop} (w : World) (h₀ : Heap) (L : Addr) (s₀ : Shared) (own : Led) (mm : Str → Option Value) (a : Ad1) (mv now cnt : Int) (m : Nat) (q : wpAny M A tr (MidP w h₀ L s₀ own mm a mv now cnt m) E s)
    (k : ∀ h tk nx' t' q1' q2' m9, Fr h₀ L h m9 → (∀ z, z ≠ Str.ofString "some" → z ≠ Str.ofString "others" → m9 z = mm z) → News h₀ L h (nx' ++ own) → OwnOff own (nx'.map (·.1)) → LS1 w nx' a t' → Rel a mv now t' q1' q2' → t'.cnt = cnt → t'.m ≤ m + 2 → R Flow.next { heap := h, gens := s₀.gens, drawn := s₀.drawn, toks := tk, os := s₀.os }) : wpAny M A tr R E s :=
  wpAny_mono q (fun _ _ q => q.elim k) fun _ _ e => e
theorem ints_dat {nx : Led} : ∀ {vs : List Value} {ks : List Int}, IntsAre vs ks → DatAll nx vs (ks.map Dat.int)
  | [], _, h => by cases h; exact .nil
  | _ :: _, _, h => by
    cases h with
    | cons k t h => exact .cons (.int k t) (ints_dat h)
theorem ints_ok {l : List Int} : ∀ d ∈ l.map Dat.int, kqdOk 8 d = true := by
  intro d hd
  obtain ⟨p, _, rfl⟩ := List.mem_map.mp hd
  rfl
theorem reuseKeys_len (C : Cfg) (t : Int) (q1 q2 : Option Row) : (reuseKeys C t q1 q2).length ≤ 2 := Nat.le_trans (List.length_filter_le _ _) (keysOf_len q1 q2)
theorem goneKeys_len (C : Cfg) (t : Int) (q1 q2 : Option Row) : (goneKeys C t q1 q2).length ≤ 2 := Nat.le_trans (List.length_filter_le _ _) (Nat.le_trans (List.length_filter_le _ _) (keysOf_len q1 q2))
theorem sub_four {own nx : Led} {p q r s : Addr × Obj} : ∀ x ∈ nx ++ own, x ∈ s :: (nx ++ (p :: q :: r :: own)) := fun _ hx => .tail _ ((List.mem_append.mp hx).elim (fun h => List.mem_append_left _ h) fun h => List.mem_append_right _ (.tail _ (.tail _ (.tail _ h))))
theorem forget_none {C : Cfg} {t : Int} : forgetR C t none = none := by unfold forgetR; split <;> rfl
theorem deed_word {x : Str} (h : IsDeed x) (h1 : (x == Str.ofString "usable") = false) (h2 : (x == Str.ofString "old") = false) : IsWord x := by
  rcases h with h | rfl | rfl
  · exact h
  · exact absurd h1 (by decide)
  · exact absurd h2 (by decide)
theorem law_tail {w : World} {mean : ExcName → Option Value} {mg mb : Str → Option Value} {h₀ : Heap} {L fa cc : Addr} {s0 : Shared} {Q : Flow → Shared → Prop} {a : Ad1} {m : Str → Option Value} {nx : Led} (mv : Int) (tm : Tok)
    (B : Below callerA h₀ [] h₀) (F : Fr h₀ L s0.heap m) (X : (pre1.heap_1 w.params).In h₀) (N : News h₀ L s0.heap nx) (T : Top hd1.view_39 (looseW hd1.view_39 []) mean mg mb h₀) (ok : Ad1Ok w a) (hmv : 0 ≤ mv ∧ mv < 30) (hI : TailI1 w a mv tm 0 m nx)
    (ret : ∀ h' tk' m', Fr h₀ L h' m' → Q (.ret (.bool true)) { s0 with heap := h', toks := tk' }) :
    wpAny (model Mine.XL.row.prog w) (callerA.deeper (envOf (Str.ofString "law") lawScope L fa (.ref cc))) (execs (lawBody.drop 6) (envOf (Str.ofString "law") lawScope L fa (.ref cc))) Q
      (fun _ _ => False) s0 := by
  (w_top off; k_with_none; (k_with "my updF" => (first | assumption | exact UpdF.tail (my_ne (by assumption) (by assumption)) (by assumption))); (k_with "my upd" => (exact updF_upd (by assumption) _)); (k_with "my mem" => (first | exact updF_new (by assumption) _ | exact updF_old (by assumption) (by assumption) (by assumption) | (refine List.mem_cons_of_mem _ ?_; k_mem) | (refine List.mem_append_right _ ?_; k_mem))); (k_with "my islist" => (exact News.isList (by k_asm) (by k_mem))); (k_with "my fact" => (first | assumption | trivial | omega | (refine ⟨?_, ?_⟩ <;> omega) | ((try dsimp only); first | assumption | omega | l_fact))); (k_with "compareOp In int ref" => ((k_here; k_dflt (refine my_in (by k_asm) (by k_mem) (by k_asm) (by k_asm) _ (by assumption) ?_); (try dsimp only)))); (k_with "subscriptTail" => ((k_here; k_dflt (first
  | ((with_reducible show wpAny _ _ (subscriptTail _ _ (Value.ref _) (Value.str _ _)) _ _ _); refine kda_item (knd := PySem.strKind _ _) (by k_asm) (by k_mem) (by k_asm) (strKind_is _ _ _ _) (by assumption) ?_; (try dsimp only))
  | ((with_reducible show wpAny _ _ (subscriptTail _ _ (Value.ref _) (Value.int _ _)) _ _ _); refine kda_item (knd := PySem.intKind _ _) (by k_asm) (by k_mem) (by k_asm) (intKind_is _ _ _ _) (by assumption) ?_; (try dsimp only)))))); (k_with "my sub" => (intro p9 hp9; repeat (first | exact hp9 | assumption | refine List.mem_cons_of_mem _ ?_ | refine List.mem_append_right _ ?_))); (k_with "call ref" => ((k_here; (with_reducible show wpAny _ _ (call (Value.ref 152) _) _ _ _); refine Stop.mk ?_))); (k_with "call ref" => ((k_here; (with_reducible show wpAny _ _ (call (Value.ref 152) _) _ _ _); k_dflt (refine Ctr.cDrawL (by k_asm) (by k_asm) (by k_asm) (by k_asm) (by k_asm) (by first | exact rfl | assumption) (by (first | exact room3 (by assumption) (by rfl) | exact room2 (by assumption) (by rfl) | exact room1 (by assumption) | exact Nat.le_of_ble_eq_true rfl | ktr_room)) (by first | (first | exact room3 (by assumption) (by rfl) | exact room2 (by assumption) (by rfl) | exact room1 (by assumption) | exact Nat.le_of_ble_eq_true rfl | ktr_units) | exact Nat.le_of_ble_eq_true rfl | (have hcL9 := cLine_is; (try simp only [units_under_make, units_in1, units_deeper, Around.mark_units, units_caller] at *); (try dsimp only [ktrTop] at *); omega)) (draw_l _ _ (by assumption) (by assumption) (by assumption) (by refine ⟨?_, ?_⟩ <;> ((try simp only [St1.bump]); omega)) (by walk_at "my fact")) ?_); k_whole); intro h9 tk9 v9 t9 y9 lo9 hi9 o9 S9 F9 N9; (try dsimp only); (try k_fold))); (k_with "exec For Name Call cons nil" => ((k_here; (rename Fr _ _ _ _ => lF9); (with_unfolding_all refine For_invVF lF9 (by exact rfl) (by exact rfl) ?_); k_whole))); (k_with "pyIter ref" => (refine Stop.mk ?_)); (k_with "subscriptTail" => ((with_reducible show wpAny _ _ (subscriptTail _ _ (Value.ref _) (Value.int (_ : Int) _)) _ _ _); refine Stop.mk ?_)))
  revert X
  k_fill
  intro X
  dsimp only [lawBody, lawScope, lawStmt, bodyOf, scopeOf, PySem.Challenge.pw_sj0173_01, List.getLast?, List.getLast, Option.getD_some, Option.getD, List.drop_succ_cons, List.drop_zero]
  (try k_fold)
  k_steps
  refine Stop.go ?_
  (rename Fr _ _ _ _ => lF)
  (rename News _ _ _ _ => lN)
  (rename IsRange _ _ _ _ _ _ _ _ => lR)
  refine my_range (n := 8) (nx₀ := nx) (TailI1 w a mv tm) rfl lR (by decide) (by rfl) lF lN (fun _ q => q) hI ?_ ?_
  · clear lF lN lR hI
    intro i ti m1 nx1 h1 tk1 own hi off J0 F1 N1
    refine J0.elim fun t q1 q2 now tn J => ?_
    clear J0
    rw [J.map] at F1
    have S := J.S
    have hr := J.r
    have hc := J.hc
    have hn := J.hn
    have hm := J.hm
    (try dsimp only)
    (try k_fold)
    k_steps
    refine Stop.go ?_
    have lo7 := lo9
    have hi7 := hi9
    generalize v9 = v7 at *
    (rename ∀ p, p ∈ y9 ++ own → p.1 < _ => ltD)
    (rename News _ _ _ _ => ND)
    (rename Fr _ _ _ _ => FD)
    refine Ctr.cDrawL (by k_asm) (by k_asm) (by k_asm) (cb_drop ND sub_mid) (by k_asm) (by first | exact rfl | assumption) (by (first | exact room3 (by assumption) (by rfl) | exact room2 (by assumption) (by rfl) | exact room1 (by assumption) | exact Nat.le_of_ble_eq_true rfl | ktr_room)) (by first | (first | exact room3 (by assumption) (by rfl) | exact room2 (by assumption) (by rfl) | exact room1 (by assumption) | exact Nat.le_of_ble_eq_true rfl | ktr_units) | exact Nat.le_of_ble_eq_true rfl) (draw_l 7 _ S9 (own_cons o9 fun p hp => Nat.ne_of_lt (ltD p (List.mem_append_left _ hp))) ok (by refine ⟨?_, ?_⟩ <;> ((try simp only [St1.bump]); omega)) (by decide)) ?_
    clear ND FD
    intro h9 tk9 v8 t8 y8 lo8 hi8 o8 S8 F9 N9
    (try dsimp only)
    (try k_fold)
    k_steps
    refine Stop.go ?_
    refine my_deed N9 (List.mem_append_right _ (.head _)) lo8 hi8 ?_ (by with_unfolding_all rfl)
    intro x8 tx8 dx8
    replace N9 := cb_drop N9 sub_out
    have o7 : OwnOff own (y8.map (·.1)) := fun p hp => o8 p (.tail _ hp)
    clear o8 S9 o9
    (w_top off; k_with_none; (k_with "my updF" => (first | assumption | exact UpdF.tail (my_ne (by assumption) (by assumption)) (by assumption))); (k_with "my upd" => (exact updF_upd (by assumption) _)); (k_with "my mem" => (first | exact updF_new (by assumption) _ | exact updF_old (by assumption) (by assumption) (by assumption) | (refine List.mem_cons_of_mem _ ?_; k_mem) | (refine List.mem_append_right _ ?_; k_mem))); (k_with "my islist" => (exact News.isList (by k_asm) (by k_mem))); (k_with "my fact" => (first | assumption | trivial | omega | (refine ⟨?_, ?_⟩ <;> omega) | ((try dsimp only); first | assumption | omega | l_fact))); (k_with "compareOp In int ref" => ((k_here; k_dflt (refine my_in (by k_asm) (by k_mem) (by k_asm) (by k_asm) _ (by assumption) ?_); (try dsimp only)))); (k_with "subscriptTail" => ((k_here; k_dflt (first
  | ((with_reducible show wpAny _ _ (subscriptTail _ _ (Value.ref _) (Value.str _ _)) _ _ _); refine kda_item (knd := PySem.strKind _ _) (by k_asm) (by k_mem) (by k_asm) (strKind_is _ _ _ _) (by assumption) ?_; (try dsimp only))
  | ((with_reducible show wpAny _ _ (subscriptTail _ _ (Value.ref _) (Value.int _ _)) _ _ _); refine kda_item (knd := PySem.intKind _ _) (by k_asm) (by k_mem) (by k_asm) (intKind_is _ _ _ _) (by assumption) ?_; (try dsimp only)))))); (k_with "my sub" => (intro p9 hp9; repeat (first | exact hp9 | assumption | refine List.mem_cons_of_mem _ ?_ | refine List.mem_append_right _ ?_))); (k_with "call ref" => ((k_here; (with_reducible show wpAny _ _ (call (Value.ref 152) _) _ _ _); k_dflt (refine Ctr.cDrawL (by k_asm) (by k_asm) (by k_asm) (by k_asm) (by k_asm) (by first | exact rfl | assumption) (by (first | exact room3 (by assumption) (by rfl) | exact room2 (by assumption) (by rfl) | exact room1 (by assumption) | exact Nat.le_of_ble_eq_true rfl | ktr_room)) (by first | (first | exact room3 (by assumption) (by rfl) | exact room2 (by assumption) (by rfl) | exact room1 (by assumption) | exact Nat.le_of_ble_eq_true rfl | ktr_units) | exact Nat.le_of_ble_eq_true rfl | (have hcL9 := cLine_is; (try simp only [units_under_make, units_in1, units_deeper, Around.mark_units, units_caller] at *); (try dsimp only [ktrTop] at *); omega)) (draw_l _ _ (by assumption) (by assumption) (by assumption) (by refine ⟨?_, ?_⟩ <;> ((try simp only [St1.bump]); omega)) (by walk_at "my fact")) ?_); k_whole); intro h9 tk9 v9 t9 y9 lo9 hi9 o9 S9 F9 N9; (try dsimp only); (try k_fold))); (k_with "exec If" => (refine Stop.mk ?_)))
    (try dsimp only)
    (try k_fold)
    k_steps
    refine Stop.go ?_
    (rename LS1 _ _ _ _ => S3)
    (rename OwnOff _ _ => o3)
    (rename Fr _ _ _ _ => lF)
    (rename News _ _ _ _ => lN)
    have hr3 : Rel a mv (now + v7) t.bump.bump.bump q1 q2 := ⟨⟨hr.a0, hr.b0, hr.a1, hr.b1, hr.a2, hr.b2⟩, hr.w1.later (by omega), hr.w2.later (by omega)⟩
    have hcb : 0 ≤ t.bump.bump.bump.cnt ∧ t.bump.bump.bump.cnt ≤ 10 + 3 * ((i + 1 : Nat) : Int) := by refine ⟨?_, ?_⟩ <;> (simp only [St1.bump]; omega)
    have hmb : t.bump.bump.bump.m ≤ 6 * i := hm
    have hway : 1 + v9.fdiv 2 = 1 ∨ 1 + v9.fdiv 2 = 2 := by
      have h : v9 = 0 ∨ v9 = 1 ∨ v9 = 2 := by omega
      rcases h with rfl | rfl | rfl <;> decide
    generalize 1 + v9.fdiv 2 = wy at lF hway
    have hn3 : 0 ≤ now + v7 ∧ now + v7 ≤ 4 * ((i + 1 : Nat) : Int) := ⟨by omega, by omega⟩
    generalize t.bump.bump.bump = tb at S3 hr3 hcb hmb
    clear S8 o7 S hr hc hm
    obtain ⟨mm, hmm, lF⟩ := fr_abs lF
    refine mid_mono w h₀ L s0 own mm a mv (now + v7) tb.cnt tb.m ?_ ?_
    · subst hmm
      (w_top off; k_with_none; (k_with "my updF" => (first | assumption | exact UpdF.tail (my_ne (by assumption) (by assumption)) (by assumption))); (k_with "my upd" => (exact updF_upd (by assumption) _)); (k_with "my mem" => (first | exact updF_new (by assumption) _ | exact updF_old (by assumption) (by assumption) (by assumption) | (refine List.mem_cons_of_mem _ ?_; k_mem) | (refine List.mem_append_right _ ?_; k_mem))); (k_with "my islist" => (exact News.isList (by k_asm) (by k_mem))); (k_with "my fact" => (first | assumption | trivial | omega | (refine ⟨?_, ?_⟩ <;> omega) | ((try dsimp only); first | assumption | omega | l_fact))); (k_with "compareOp In int ref" => ((k_here; k_dflt (refine my_in (by k_asm) (by k_mem) (by k_asm) (by k_asm) _ (by assumption) ?_); (try dsimp only)))); (k_with "subscriptTail" => ((k_here; k_dflt (first
  | ((with_reducible show wpAny _ _ (subscriptTail _ _ (Value.ref _) (Value.str _ _)) _ _ _); refine kda_item (knd := PySem.strKind _ _) (by k_asm) (by k_mem) (by k_asm) (strKind_is _ _ _ _) (by assumption) ?_; (try dsimp only))
  | ((with_reducible show wpAny _ _ (subscriptTail _ _ (Value.ref _) (Value.int _ _)) _ _ _); refine kda_item (knd := PySem.intKind _ _) (by k_asm) (by k_mem) (by k_asm) (intKind_is _ _ _ _) (by assumption) ?_; (try dsimp only)))))); (k_with "my sub" => (intro p9 hp9; repeat (first | exact hp9 | assumption | refine List.mem_cons_of_mem _ ?_ | refine List.mem_append_right _ ?_))); (k_with "call ref" => ((k_here; (with_reducible show wpAny _ _ (call (Value.ref 133) _) _ _ _); refine Stop.mk ?_))); (k_with "call ref" => ((k_here; (with_reducible show wpAny _ _ (call (Value.ref 138) _) _ _ _); refine Stop.mk ?_))); (k_with "call ref" => ((k_here; (with_reducible show wpAny _ _ (call (Value.ref 171) _) _ _ _); refine Stop.mk ?_))); (k_with "setItem ref int" => (refine Stop.mk ?_)); (k_with "binaryOp Add ref ref" => (refine Stop.mk ?_)); (k_with "compareOp NotEq ref ref" => (refine Stop.mk ?_)))
      (refine S3.rawK own ?_; intro ra1 ra2 ra3 ra4 ra5 rb1 rb2 rb3 rb4 rb5 rb6 rb7 ra6 rc1 rc2 rc3 rc4 rc5 rc6 rc7 ra7 rd1 rd2 rd3 rd4 rd5 rd6 rd7 ra8)
      have xa1 := ok.ald
      have xa2 := ok.al1
      have xa3 := ok.al2
      have xa4 := ok.bkd
      have xa5 := ok.bk1
      have xa6 := ok.bk2
      have tb1 := ok.topb
      have k1 := hr3.w1.ok tb1.2 (by omega) (Int.le_refl _) (by omega)
      have k2 := hr3.w2.ok tb1.2 (by omega) (Int.le_refl _) (by omega)
      have z0 : RowOk (now + v7) none := trivial
      (try dsimp only)
      (try k_fold)
      k_steps
      · refine Stop.go ?_
        refine Ctr.cList (by k_asm) (by k_asm) (by k_asm) (by k_asm) (by k_asm) (by first | exact rfl | assumption) (by (first | exact room3 (by assumption) (by rfl) | exact room2 (by assumption) (by rfl) | exact room1 (by assumption) | exact Nat.le_of_ble_eq_true rfl | ktr_room)) (by first | (first | exact room3 (by assumption) (by rfl) | exact room2 (by assumption) (by rfl) | exact room1 (by assumption) | exact Nat.le_of_ble_eq_true rfl | ktr_units) | exact Nat.le_of_ble_eq_true rfl) (reused_l (i := 0) (now + v7) _ S3 o3 ok (by decide) (by rw [hr3.a0]; exact k1) (by rw [hr3.b0]; exact z0)) ?_
        intro h9 tk9 nx1 ob1 kv1 E1 vs1 n1 hI1 off1 S1 F9 N9
        rw [hr3.a0, hr3.b0] at S1 hI1
        (refine S1.rawK ((E1, W.listOf vs1.toArray n1) :: own) ?_; intro ra1 ra2 ra3 ra4 ra5 rb1 rb2 rb3 rb4 rb5 rb6 rb7 ra6 rc1 rc2 rc3 rc4 rc5 rc6 rc7 ra7 rd1 rd2 rd3 rd4 rd5 rd6 rd7 ra8)
        (try dsimp only)
        (try k_fold)
        k_steps
        refine Stop.go ?_
        refine Ctr.cList (by k_asm) (by k_asm) (by k_asm) (by k_asm) (by k_asm) (by first | exact rfl | assumption) (by (first | exact room3 (by assumption) (by rfl) | exact room2 (by assumption) (by rfl) | exact room1 (by assumption) | exact Nat.le_of_ble_eq_true rfl | ktr_room)) (by first | (first | exact room3 (by assumption) (by rfl) | exact room2 (by assumption) (by rfl) | exact room1 (by assumption) | exact Nat.le_of_ble_eq_true rfl | ktr_units) | exact Nat.le_of_ble_eq_true rfl) (reused_l (i := 1) (now + v7) _ S1 off1 ok (by decide) (by show RowOk _ (tb.qa 1); rw [hr3.a1]; exact z0) (by show RowOk _ (tb.qb 1); rw [hr3.b1]; exact k2)) ?_
        intro h9 tk9 nx2 ob2 kv2 E2 vs2 n2 hI2 off2 S2 F9 N9
        rw [show (tb.setRows 0 ob1 kv1 (reuseR a.C (now + v7) q1) (reuseR a.C (now + v7) none)).qa 1 = none from hr3.a1, show (tb.setRows 0 ob1 kv1 (reuseR a.C (now + v7) q1) (reuseR a.C (now + v7) none)).qb 1 = q2 from hr3.b1] at S2 hI2
        (refine S2.rawK ((E2, W.listOf vs2.toArray n2) :: (E1, W.listOf vs1.toArray n1) :: own) ?_; intro ra1 ra2 ra3 ra4 ra5 rb1 rb2 rb3 rb4 rb5 rb6 rb7 ra6 rc1 rc2 rc3 rc4 rc5 rc6 rc7 ra7 rd1 rd2 rd3 rd4 rd5 rd6 rd7 ra8)
        (try dsimp only)
        (try k_fold)
        k_steps
        refine Stop.go ?_
        (rename News _ _ _ _ => lN2)
        refine Ctr.cList (by k_asm) (by k_asm) (by k_asm) (cb_drop lN2 fun p hp => .tail _ hp) (by k_asm) (by first | exact rfl | assumption) (by (first | exact room3 (by assumption) (by rfl) | exact room2 (by assumption) (by rfl) | exact room1 (by assumption) | exact Nat.le_of_ble_eq_true rfl | ktr_room)) (by first | (first | exact room3 (by assumption) (by rfl) | exact room2 (by assumption) (by rfl) | exact room1 (by assumption) | exact Nat.le_of_ble_eq_true rfl | ktr_units) | exact Nat.le_of_ble_eq_true rfl) (reused_l (i := 2) (now + v7 + mv) _ S2 off2 ok (by decide) (by show RowOk _ (tb.qa 2); rw [hr3.a2]; exact ok_shift k1) (by show RowOk _ (tb.qb 2); rw [hr3.b2]; exact ok_shift k2)) ?_
        intro h9 tk9 nx3 ob3 kv3 E3 vs3 n3 hI3 off3 S3' F9 N9
        rw [show ((tb.setRows 0 ob1 kv1 (reuseR a.C (now + v7) q1) (reuseR a.C (now + v7) none)).setRows 1 ob2 kv2 (reuseR a.C (now + v7) none) (reuseR a.C (now + v7) q2)).qa 2 = shiftR mv q1 from hr3.a2, show ((tb.setRows 0 ob1 kv1 (reuseR a.C (now + v7) q1) (reuseR a.C (now + v7) none)).setRows 1 ob2 kv2 (reuseR a.C (now + v7) none) (reuseR a.C (now + v7) q2)).qb 2 = shiftR mv q2 from hr3.b2] at S3' hI3
        rw [reuseKeys_join] at hI3
        clear lN2
        (try dsimp only)
        (try k_fold)
        k_steps
        refine Stop.go ?_
        refine add_lists_ints F9 N9 (News.isList N9 (List.mem_append_right _ (.tail _ (.tail _ (.head _))))) (News.isList N9 (List.mem_append_right _ (.tail _ (.head _)))) hI1 hI2 (fun h8 F8 N8 hI4 => ?_) (by have := reuseKeys_len a.C (now + v7) q1 none; have := reuseKeys_len a.C (now + v7) none q2; rw [sizeLine_eq]; omega)
        clear F9 N9
        (try dsimp only)
        (try k_fold)
        k_steps
        refine Stop.go ?_
        refine kqd_ne N8 (.tail _ (List.mem_append_right _ (.head _))) rfl rfl (ints_dat (nx := []) hI3) (fun _ h => nomatch h) (.head _) rfl rfl (ints_dat (nx := []) hI4) (fun _ h => nomatch h) ints_ok ints_ok (by first | (first | exact room3 (by assumption) (by rfl) | exact room2 (by assumption) (by rfl) | exact room1 (by assumption) | exact Nat.le_of_ble_eq_true rfl | ktr_units) | exact Nat.le_of_ble_eq_true rfl) ?_
        simp only [decide_true, Bool.not_true]
        (try dsimp only)
        (try k_fold)
        k_steps
        (rename Fr _ _ _ _ => fF)
        (rename News _ _ _ _ => fN)
        refine ⟨rfl, _, _, nx3, _, reuseR a.C (now + v7) q1, reuseR a.C (now + v7) q2, _, rfl, fF, by intro z h1 h2; simp [h1, h2], cb_drop fN sub_four, fun p hp => off3 p (.tail _ (.tail _ (.tail _ hp))), S3', ⟨⟨rfl, rfl, rfl, rfl, reuse_shift, reuse_shift⟩, hr3.w1.reused (by have := ok.ok.half; omega) tb1.1 hn3.1, hr3.w2.reused (by have := ok.ok.half; omega) tb1.1 hn3.1⟩, rfl, by show tb.m ≤ tb.m + 2; omega⟩
      · refine Stop.go ?_
        refine Ctr.cList (by k_asm) (by k_asm) (by k_asm) (by k_asm) (by k_asm) (by first | exact rfl | assumption) (by (first | exact room3 (by assumption) (by rfl) | exact room2 (by assumption) (by rfl) | exact room1 (by assumption) | exact Nat.le_of_ble_eq_true rfl | ktr_room)) (by first | (first | exact room3 (by assumption) (by rfl) | exact room2 (by assumption) (by rfl) | exact room1 (by assumption) | exact Nat.le_of_ble_eq_true rfl | ktr_units) | exact Nat.le_of_ble_eq_true rfl) (forget_l (i := 0) (now + v7) _ S3 o3 ok (by decide) (by rw [hr3.a0]; exact k1) (by rw [hr3.b0]; exact z0)) ?_
        intro h9 tk9 nx1 ob1 kv1 E1 vs1 n1 hI1 off1 S1 F9 N9
        rw [hr3.a0, hr3.b0] at S1 hI1
        (refine S1.rawK ((E1, W.listOf vs1.toArray n1) :: own) ?_; intro ra1 ra2 ra3 ra4 ra5 rb1 rb2 rb3 rb4 rb5 rb6 rb7 ra6 rc1 rc2 rc3 rc4 rc5 rc6 rc7 ra7 rd1 rd2 rd3 rd4 rd5 rd6 rd7 ra8)
        (try dsimp only)
        (try k_fold)
        k_steps
        refine Stop.go ?_
        refine Ctr.cList (by k_asm) (by k_asm) (by k_asm) (by k_asm) (by k_asm) (by first | exact rfl | assumption) (by (first | exact room3 (by assumption) (by rfl) | exact room2 (by assumption) (by rfl) | exact room1 (by assumption) | exact Nat.le_of_ble_eq_true rfl | ktr_room)) (by first | (first | exact room3 (by assumption) (by rfl) | exact room2 (by assumption) (by rfl) | exact room1 (by assumption) | exact Nat.le_of_ble_eq_true rfl | ktr_units) | exact Nat.le_of_ble_eq_true rfl) (forget_l (i := 1) (now + v7) _ S1 off1 ok (by decide) (by show RowOk _ (tb.qa 1); rw [hr3.a1]; exact z0) (by show RowOk _ (tb.qb 1); rw [hr3.b1]; exact k2)) ?_
        intro h9 tk9 nx2 ob2 kv2 E2 vs2 n2 hI2 off2 S2 F9 N9
        rw [show (tb.setRows 0 ob1 kv1 (forgetR a.C (now + v7) q1) (forgetR a.C (now + v7) none)).qa 1 = none from hr3.a1, show (tb.setRows 0 ob1 kv1 (forgetR a.C (now + v7) q1) (forgetR a.C (now + v7) none)).qb 1 = q2 from hr3.b1] at S2 hI2
        (refine S2.rawK ((E2, W.listOf vs2.toArray n2) :: (E1, W.listOf vs1.toArray n1) :: own) ?_; intro ra1 ra2 ra3 ra4 ra5 rb1 rb2 rb3 rb4 rb5 rb6 rb7 ra6 rc1 rc2 rc3 rc4 rc5 rc6 rc7 ra7 rd1 rd2 rd3 rd4 rd5 rd6 rd7 ra8)
        (try dsimp only)
        (try k_fold)
        k_steps
        refine Stop.go ?_
        (rename News _ _ _ _ => lN2)
        refine Ctr.cList (by k_asm) (by k_asm) (by k_asm) (cb_drop lN2 fun p hp => .tail _ hp) (by k_asm) (by first | exact rfl | assumption) (by (first | exact room3 (by assumption) (by rfl) | exact room2 (by assumption) (by rfl) | exact room1 (by assumption) | exact Nat.le_of_ble_eq_true rfl | ktr_room)) (by first | (first | exact room3 (by assumption) (by rfl) | exact room2 (by assumption) (by rfl) | exact room1 (by assumption) | exact Nat.le_of_ble_eq_true rfl | ktr_units) | exact Nat.le_of_ble_eq_true rfl) (forget_l (i := 2) (now + v7 + mv) _ S2 off2 ok (by decide) (by show RowOk _ (tb.qa 2); rw [hr3.a2]; exact ok_shift k1) (by show RowOk _ (tb.qb 2); rw [hr3.b2]; exact ok_shift k2)) ?_
        intro h9 tk9 nx3 ob3 kv3 E3 vs3 n3 hI3 off3 S3' F9 N9
        rw [show ((tb.setRows 0 ob1 kv1 (forgetR a.C (now + v7) q1) (forgetR a.C (now + v7) none)).setRows 1 ob2 kv2 (forgetR a.C (now + v7) none) (forgetR a.C (now + v7) q2)).qa 2 = shiftR mv q1 from hr3.a2, show ((tb.setRows 0 ob1 kv1 (forgetR a.C (now + v7) q1) (forgetR a.C (now + v7) none)).setRows 1 ob2 kv2 (forgetR a.C (now + v7) none) (forgetR a.C (now + v7) q2)).qb 2 = shiftR mv q2 from hr3.b2] at S3' hI3
        rw [goneKeys_join] at hI3
        clear lN2
        (try dsimp only)
        (try k_fold)
        k_steps
        refine Stop.go ?_
        refine add_lists_ints F9 N9 (News.isList N9 (List.mem_append_right _ (.tail _ (.tail _ (.head _))))) (News.isList N9 (List.mem_append_right _ (.tail _ (.head _)))) hI1 hI2 (fun h8 F8 N8 hI4 => ?_) (by have := goneKeys_len a.C (now + v7) q1 none; have := goneKeys_len a.C (now + v7) none q2; rw [sizeLine_eq]; omega)
        clear F9 N9
        (try dsimp only)
        (try k_fold)
        k_steps
        refine Stop.go ?_
        refine kqd_ne N8 (.tail _ (List.mem_append_right _ (.head _))) rfl rfl (ints_dat (nx := []) hI3) (fun _ h => nomatch h) (.head _) rfl rfl (ints_dat (nx := []) hI4) (fun _ h => nomatch h) ints_ok ints_ok (by first | (first | exact room3 (by assumption) (by rfl) | exact room2 (by assumption) (by rfl) | exact room1 (by assumption) | exact Nat.le_of_ble_eq_true rfl | ktr_units) | exact Nat.le_of_ble_eq_true rfl) ?_
        simp only [decide_true, Bool.not_true]
        (try dsimp only)
        (try k_fold)
        k_steps
        (rename Fr _ _ _ _ => fF)
        (rename News _ _ _ _ => fN)
        refine ⟨rfl, _, _, nx3, _, forgetR a.C (now + v7) q1, forgetR a.C (now + v7) q2, _, rfl, fF, by intro z h1 h2; simp [h1, h2], cb_drop fN sub_four, fun p hp => off3 p (.tail _ (.tail _ (.tail _ hp))), S3', ⟨⟨rfl, forget_none, forget_none, rfl, forget_shift, forget_shift⟩, hr3.w1.forget, hr3.w2.forget⟩, rfl, by show tb.m ≤ tb.m + 2; omega⟩
      · (rename (x8 == Str.ofString "usable") = false => hu1)
        (rename (x8 == Str.ofString "old") = false => hu2)
        have hw8 := deed_word dx8 hu1 hu2
        have hwx : ∃ i q, i < 2 ∧ valueAt a.ka wy = some (.ref (a.ad (i + 7))) ∧ WayOk a.C a.top (now + v7) q (tb.T wy) (tb.L wy) ∧ rowOf (tb.qa i) (tb.qb i) wy = q ∧ rowOf (tb.qa 2) (tb.qb 2) wy = shiftR mv q ∧ ((wy = 1 ∧ i = 0 ∧ q = q1) ∨ (wy = 2 ∧ i = 1 ∧ q = q2)) := by
          rcases hway with rfl | rfl
          · exact ⟨0, q1, by decide, xa2, hr3.w1, hr3.a0, hr3.a2, .inl ⟨rfl, rfl, rfl⟩⟩
          · exact ⟨1, q2, by decide, xa3, hr3.w2, hr3.b1, hr3.b2, .inr ⟨rfl, rfl, rfl⟩⟩
        refine ex2_6 hwx fun i9 q9 hi9 xw9 wq9 hq9 hq8 hc9 => ?_
        clear hwx
        (try dsimp only)
        k_steps
        refine Stop.go ?_
        refine Ctr.cFg (by k_asm) (by k_asm) (by k_asm) (by k_asm) (by k_asm) (by first | exact rfl | assumption) (by (first | exact room3 (by assumption) (by rfl) | exact room2 (by assumption) (by rfl) | exact room1 (by assumption) | exact Nat.le_of_ble_eq_true rfl | ktr_room)) (by first | (first | exact room3 (by assumption) (by rfl) | exact room2 (by assumption) (by rfl) | exact room1 (by assumption) | exact Nat.le_of_ble_eq_true rfl | ktr_units) | exact Nat.le_of_ble_eq_true rfl) (fined_right_g (i := i9) (k := wy) (now + v7) mv x8 _ _ _ _ hi9 hway S3 o3 ok wq9 hq9 hq8 hw8 ⟨hn3.1, by omega⟩ ⟨hmv.1, by omega⟩) ?_
        intro h9 tk9 nx1 ob1 kv1 ob2 kv2 off1 S1 F9 N9
        (refine S1.rawK own ?_; intro ra1 ra2 ra3 ra4 ra5 rb1 rb2 rb3 rb4 rb5 rb6 rb7 ra6 rc1 rc2 rc3 rc4 rc5 rc6 rc7 ra7 rd1 rd2 rd3 rd4 rd5 rd6 rd7 ra8)
        (try dsimp only)
        (try k_fold)
        k_steps
        refine Stop.go ?_
        (rename Fr _ _ _ _ => lF1)
        (rename News _ _ _ _ => lN1)
        refine set_last lF1 (cb_drop lN1 (by walk_at "my sub")) S1 off1 ok (by show tb.m ≤ 90; omega) (fun h8 nx2 ola2 kl2 F8 N8 off2 S2 => ?_)
        clear lF1 lN1
        (refine S2.rawK own ?_; intro ra1 ra2 ra3 ra4 ra5 rb1 rb2 rb3 rb4 rb5 rb6 rb7 ra6 rc1 rc2 rc3 rc4 rc5 rc6 rc7 ra7 rd1 rd2 rd3 rd4 rd5 rd6 rd7 ra8)
        (try dsimp only)
        (try k_fold)
        k_steps
        refine Stop.go ?_
        (rename Fr _ _ _ _ => lF2)
        (rename News _ _ _ _ => lN2)
        refine set_told lF2 (cb_drop lN2 (by walk_at "my sub")) S2 off2 ok (by show tb.m + 1 ≤ 90; omega) (fun h7 nx4 oto2 kt2 F7 N7 off4 S4 => ?_)
        clear lF2 lN2
        (try dsimp only)
        (try k_fold)
        k_steps
        (rename Fr _ _ _ _ => fF)
        (rename News _ _ _ _ => fN)
        have lw := ok.ok.word x8
        rcases hc9 with ⟨rfl, rfl, rfl⟩ | ⟨rfl, rfl, rfl⟩
        · exact ⟨rfl, _, _, nx4, _, some (finR a.C a.top (wAdd a.C x8) _ (now + v7)), _, _, rfl, fF, by intro z h1 h2; rfl, fN, off4, S4, ⟨⟨rfl, hr3.b0, hr3.a1, hr3.b1, rfl, hr3.b2⟩, hr3.w1.fined (add := wAdd a.C x8) (by have := ok.ok.half; omega) tb1.1 (by omega) hn3.1, hr3.w2⟩, rfl, by show tb.m + 1 + 1 ≤ tb.m + 2; omega⟩
        · exact ⟨rfl, _, _, nx4, _, _, some (finR a.C a.top (wAdd a.C x8) _ (now + v7)), _, rfl, fF, by intro z h1 h2; rfl, fN, off4, S4, ⟨⟨hr3.a0, hr3.b0, hr3.a1, rfl, hr3.a2, rfl⟩, hr3.w1, hr3.w2.fined (add := wAdd a.C x8) (by have := ok.ok.half; omega) tb1.1 (by omega) hn3.1⟩, rfl, by show tb.m + 1 + 1 ≤ tb.m + 2; omega⟩
    · intro h6 tk6 nx6 t6 p1 p2 m6 F6 hm6 N6 o6 S6 r6 hc6 hu6
      dsimp only
      have J6 : TailK w a mv tm (i + 1) m6 nx6 t6 p1 p2 (now + v7) _ := ⟨(hm6 _ (by decide) (by decide)).trans (by rw [hmm]; rfl), (hm6 _ (by decide) (by decide)).trans (by rw [hmm]; rfl), (hm6 _ (by decide) (by decide)).trans (by rw [hmm]; rfl), (hm6 _ (by decide) (by decide)).trans (by rw [hmm]; rfl), (hm6 _ (by decide) (by decide)).trans (by rw [hmm]; rfl), (hm6 _ (by decide) (by decide)).trans (by rw [hmm]; rfl), S6, r6, by rw [hc6]; exact hcb, hn3, by omega⟩
      rw [J6.map] at F6
      clear lF hmm
      (w_top off; k_with_none; (k_with "my updF" => (first | assumption | exact UpdF.tail (my_ne (by assumption) (by assumption)) (by assumption))); (k_with "my upd" => (exact updF_upd (by assumption) _)); (k_with "my mem" => (first | exact updF_new (by assumption) _ | exact updF_old (by assumption) (by assumption) (by assumption) | (refine List.mem_cons_of_mem _ ?_; k_mem) | (refine List.mem_append_right _ ?_; k_mem))); (k_with "my islist" => (exact News.isList (by k_asm) (by k_mem))); (k_with "my fact" => (first | assumption | trivial | omega | (refine ⟨?_, ?_⟩ <;> omega) | ((try dsimp only); first | assumption | omega | l_fact))); (k_with "compareOp In int ref" => ((k_here; k_dflt (refine my_in (by k_asm) (by k_mem) (by k_asm) (by k_asm) _ (by assumption) ?_); (try dsimp only)))); (k_with "subscriptTail" => ((k_here; k_dflt (first
  | ((with_reducible show wpAny _ _ (subscriptTail _ _ (Value.ref _) (Value.str _ _)) _ _ _); refine kda_item (knd := PySem.strKind _ _) (by k_asm) (by k_mem) (by k_asm) (strKind_is _ _ _ _) (by assumption) ?_; (try dsimp only))
  | ((with_reducible show wpAny _ _ (subscriptTail _ _ (Value.ref _) (Value.int _ _)) _ _ _); refine kda_item (knd := PySem.intKind _ _) (by k_asm) (by k_mem) (by k_asm) (intKind_is _ _ _ _) (by assumption) ?_; (try dsimp only)))))); (k_with "my sub" => (intro p9 hp9; repeat (first | exact hp9 | assumption | refine List.mem_cons_of_mem _ ?_ | refine List.mem_append_right _ ?_))); (k_with "call ref" => ((k_here; (with_reducible show wpAny _ _ (call (Value.ref 157) _) _ _ _); k_dflt (refine Ctr.cVal (by k_asm) (by k_asm) (by k_asm) (by k_asm) (by k_asm) (by first | exact rfl | assumption) (by (first | exact room3 (by assumption) (by rfl) | exact room2 (by assumption) (by rfl) | exact room1 (by assumption) | exact Nat.le_of_ble_eq_true rfl | ktr_room)) (by first | (first | exact room3 (by assumption) (by rfl) | exact room2 (by assumption) (by rfl) | exact room1 (by assumption) | exact Nat.le_of_ble_eq_true rfl | ktr_units) | exact Nat.le_of_ble_eq_true rfl | (have hcL9 := cLine_is; (try simp only [units_under_make, units_in1, units_deeper, Around.mark_units, units_caller] at *); (try dsimp only [ktrTop] at *); omega)) (told_alike_l _ _ _ _ (by assumption) (by assumption) (by assumption) (by walk_at "my fact") (by walk_at "my fact")) ?_); k_whole); intro h9 tk9 F9 N9; (try dsimp only); (try k_fold))); (k_with "call ref" => ((k_here; (with_reducible show wpAny _ _ (call (Value.ref 164) _) _ _ _); refine Stop.mk ?_))))
      (refine S6.rawK own ?_; intro ra1 ra2 ra3 ra4 ra5 rb1 rb2 rb3 rb4 rb5 rb6 rb7 ra6 rc1 rc2 rc3 rc4 rc5 rc6 rc7 ra7 rd1 rd2 rd3 rd4 rd5 rd6 rd7 ra8)
      have xa1 := ok.ald
      have xa2 := ok.al1
      have xa3 := ok.al2
      (try dsimp only)
      (try k_fold)
      k_steps
      refine Stop.go ?_
      refine Ctr.cTr (by k_asm) (by k_asm) (by k_asm) (by k_asm) (by k_asm) (by first | exact rfl | assumption) (by (first | exact room3 (by assumption) (by rfl) | exact room2 (by assumption) (by rfl) | exact room1 (by assumption) | exact Nat.le_of_ble_eq_true rfl | ktr_room)) (by first | (first | exact room3 (by assumption) (by rfl) | exact room2 (by assumption) (by rfl) | exact room1 (by assumption) | exact Nat.le_of_ble_eq_true rfl | ktr_units) | exact Nat.le_of_ble_eq_true rfl) (time_right_l (i := 0) 1 (now + v7) _ _ S6 o6 ok (by decide) (.inl rfl) (by show WayOk _ _ _ (t6.qa 0) _ _; rw [r6.a0]; exact r6.w1) (by omega) ⟨hn3.1, by omega⟩) ?_
      intro h9 tk9 nx7 oto7 kt7 T7 m7 o7' hm7 S7 hT7 hw7 F9 N9
      rw [show rowOf (t6.qa 0) (t6.qb 0) 1 = p1 from r6.a0] at hw7
      (refine S7.rawK own ?_; intro ra1 ra2 ra3 ra4 ra5 rb1 rb2 rb3 rb4 rb5 rb6 rb7 ra6 rc1 rc2 rc3 rc4 rc5 rc6 rc7 ra7 rd1 rd2 rd3 rd4 rd5 rd6 rd7 ra8)
      (try dsimp only)
      (try k_fold)
      k_steps
      refine Stop.go ?_
      refine Ctr.cTr (by k_asm) (by k_asm) (by k_asm) (by k_asm) (by k_asm) (by first | exact rfl | assumption) (by (first | exact room3 (by assumption) (by rfl) | exact room2 (by assumption) (by rfl) | exact room1 (by assumption) | exact Nat.le_of_ble_eq_true rfl | ktr_room)) (by first | (first | exact room3 (by assumption) (by rfl) | exact room2 (by assumption) (by rfl) | exact room1 (by assumption) | exact Nat.le_of_ble_eq_true rfl | ktr_units) | exact Nat.le_of_ble_eq_true rfl) (time_right_l (i := 1) 2 (now + v7) _ _ S7 o7' ok (by decide) (.inr rfl) (by show WayOk _ _ _ (t6.qb 1) (T7 2) (t6.L 2); rw [r6.b1, hT7 2 (by decide)]; exact r6.w2) (by show m7 ≤ 90; omega) ⟨hn3.1, by omega⟩) ?_
      intro h9 tk9 nx8 oto8 kt8 T8 m8 o8' hm8 S8' hT8 hw8 F9 N9
      rw [show rowOf (t6.qa 1) (t6.qb 1) 2 = p2 from r6.b1] at hw8
      (try dsimp only)
      (try k_fold)
      k_steps
      (rename Fr _ _ _ _ => fF)
      (rename News _ _ _ _ => fN)
      refine ⟨_, _, _, _, nx8, rfl, fF, fN, fun p hp => List.mem_append_left _ hp, fun p hp => List.mem_append_right _ hp, o8', _, p1, p2, now + v7, _, ⟨rfl, rfl, rfl, rfl, rfl, rfl, S8', ⟨⟨r6.a0, r6.b0, r6.a1, r6.b1, r6.a2, r6.b2⟩, ?_, hw8⟩, ?_, hn3, ?_⟩⟩
      · show WayOk a.C a.top (now + v7) p1 (T8 1) (t6.L 1)
        rw [hT8 1 (by decide)]
        exact hw7
      · show 0 ≤ t6.cnt ∧ t6.cnt ≤ _
        rw [hc6]; exact hcb
      · show m8 ≤ _
        have h1 : m8 ≤ m7 + 1 := hm8
        omega
  · clear lF lN lR hI
    intro m1 nx1 h1 tk1 J0 F1 N1
    refine J0.elim fun t q1 q2 now tn J => ?_
    clear J0
    rw [J.map] at F1
    have S := J.S
    have hr := J.r
    (w_top off; k_with_none; (k_with "my updF" => (first | assumption | exact UpdF.tail (my_ne (by assumption) (by assumption)) (by assumption))); (k_with "my upd" => (exact updF_upd (by assumption) _)); (k_with "my mem" => (first | exact updF_new (by assumption) _ | exact updF_old (by assumption) (by assumption) (by assumption) | (refine List.mem_cons_of_mem _ ?_; k_mem) | (refine List.mem_append_right _ ?_; k_mem))); (k_with "my islist" => (exact News.isList (by k_asm) (by k_mem))); (k_with "my fact" => (first | assumption | trivial | omega | (refine ⟨?_, ?_⟩ <;> omega) | ((try dsimp only); first | assumption | omega | l_fact))); (k_with "compareOp In int ref" => ((k_here; k_dflt (refine my_in (by k_asm) (by k_mem) (by k_asm) (by k_asm) _ (by assumption) ?_); (try dsimp only)))); (k_with "subscriptTail" => ((k_here; k_dflt (first
  | ((with_reducible show wpAny _ _ (subscriptTail _ _ (Value.ref _) (Value.str _ _)) _ _ _); refine kda_item (knd := PySem.strKind _ _) (by k_asm) (by k_mem) (by k_asm) (strKind_is _ _ _ _) (by assumption) ?_; (try dsimp only))
  | ((with_reducible show wpAny _ _ (subscriptTail _ _ (Value.ref _) (Value.int _ _)) _ _ _); refine kda_item (knd := PySem.intKind _ _) (by k_asm) (by k_mem) (by k_asm) (intKind_is _ _ _ _) (by assumption) ?_; (try dsimp only)))))); (k_with "my sub" => (intro p9 hp9; repeat (first | exact hp9 | assumption | refine List.mem_cons_of_mem _ ?_ | refine List.mem_append_right _ ?_))); (k_with "call type:list" => (refine Stop.mk ?_)); (k_with "call builtin:sorted" => (refine Stop.mk ?_)); (k_with "binaryOp Add ref ref" => (refine Stop.mk ?_)); (k_with "compareOp Eq ref ref" => (refine Stop.mk ?_)))
    rw [← List.append_nil nx1] at N1
    (refine S.rawK [] ?_; intro ra1 ra2 ra3 ra4 ra5 rb1 rb2 rb3 rb4 rb5 rb6 rb7 ra6 rc1 rc2 rc3 rc4 rc5 rc6 rc7 ra7 rd1 rd2 rd3 rd4 rd5 rd6 rd7 ra8)
    have xa1 := ok.ald
    have xa2 := ok.al1
    have xa3 := ok.al2
    have il : ∀ p ∈ nx1, p ∈ nx1 ++ [] := fun p hp => List.mem_append_left _ hp
    have D0 := (S.D 0 (by decide)).mono il
    have D1 := (S.D 1 (by decide)).mono il
    have D2 := (S.D 2 (by decide)).mono il
    have R0 := S.R 0 (by decide)
    have R1 := S.R 1 (by decide)
    have R2 := S.R 2 (by decide)
    rw [hr.a0, hr.b0] at R0
    rw [hr.a1, hr.b1] at R1
    rw [hr.a2, hr.b2] at R2
    (try dsimp only)
    (try k_fold)
    k_steps
    refine Stop.go ?_
    (rename Fr _ _ _ _ => lF)
    refine my_sorted rfl lF N1 D2.hr D2.hrd D2.hrs R2.len R2.ks (keysOf_sorted _ _) fun E3 vs3 c3 h3 tk3 F3 N3 l3 hI3 => ?_
    clear lF N1
    (try dsimp only)
    (try k_fold)
    k_steps
    refine Stop.go ?_
    (rename Fr _ _ _ _ => lF)
    refine my_list_keys rfl lF N3 (.tail _ D0.hr) D0.hrd D0.hrs R0.len fun E1 vs1 c1 h4 tk4 F4 N4 l4 hI1 => ?_
    clear lF N3
    (try dsimp only)
    (try k_fold)
    k_steps
    refine Stop.go ?_
    (rename Fr _ _ _ _ => lF)
    refine my_list_keys rfl lF N4 (.tail _ (.tail _ D1.hr)) D1.hrd D1.hrs R1.len fun E2 vs2 c2 h5 tk5 F5 N5 l5 hI2 => ?_
    clear lF N4
    (try dsimp only)
    (try k_fold)
    k_steps
    refine Stop.go ?_
    (rename Fr _ _ _ _ => lF)
    have n0 := R0.len
    have n1 := R1.len
    refine add_lists_ints lF N5 (News.isList N5 (.tail _ (.head _))) (News.isList N5 (.head _)) hI1 hI2 (fun h8 F8 N8 hI4 => ?_) (by rw [List.length_map, List.length_map, sizeLine_eq]; omega)
    clear lF N5
    (try dsimp only)
    (try k_fold)
    k_steps
    refine Stop.go ?_
    (rename Fr _ _ _ _ => lF)
    refine sorted_N lF N8 (News.isList N8 (.head _)) hI4 (by rw [IntsAre.size hI4, List.length_append, List.length_map, List.length_map]; have := Nat.le_trans (Nat.le_of_eq R0.ks.length_eq.symm) (keysOf_len q1 none); have := Nat.le_trans (Nat.le_of_eq R1.ks.length_eq.symm) (keysOf_len none q2); simp only [List.length_map] at *; omega) fun h7 vs7 ns7 e7 F7 N7 hI7 hp7 hs7 => ?_
    have e7' := keys_join R0 R1 hp7 hs7
    subst e7'
    rw [keysOf_shift] at hI3
    clear lF
    (try dsimp only)
    (try k_fold)
    k_steps
    refine Stop.go ?_
    refine kqd_eq N7 (.tail _ (.tail _ (.tail _ (.tail _ (.head _))))) rfl rfl (ints_dat (nx := []) hI3) (fun _ h => nomatch h) (.head _) rfl rfl (ints_dat (nx := []) hI7) (fun _ h => nomatch h) ints_ok ints_ok (by first | (first | exact room3 (by assumption) (by rfl) | exact room2 (by assumption) (by rfl) | exact room1 (by assumption) | exact Nat.le_of_ble_eq_true rfl | ktr_units) | exact Nat.le_of_ble_eq_true rfl) ?_
    simp only [decide_true]
    exact ret _ _ _ F7
noncomputable def DescL : List Addr → Prop
  | a :: b :: r => @LT.lt Nat _ b a ∧ DescL (b :: r)
  | _ => True
theorem DescL.lt : ∀ {l : List Addr} {a : Addr}, DescL (a :: l) → ∀ b ∈ l, @LT.lt Nat _ b a
  | _ :: _, _, h, _, .head _ => h.1
  | _ :: _, _, h, x, .tail _ hx => Nat.lt_trans (DescL.lt h.2 x hx) h.1
theorem DescL.nodup : ∀ {l : List Addr}, DescL l → l.Nodup
  | [], _ => List.nodup_nil
  | [_], _ => by simp
  | a :: b :: r, h => List.nodup_cons.mpr ⟨fun hm => Nat.lt_irrefl _ (DescL.lt h a hm), DescL.nodup h.2⟩
theorem desc_inj {l A : List Addr} {ps : List Nat} {d : Addr} (hA : DescL A) (e : l = ps.map (fun p => A.getD p d)) (hp : ps.Nodup) (hb : ∀ p ∈ ps, p < A.length) (hl : l.length = 16) : ∀ i j, i < 16 → j < 16 → l.getD i d = l.getD j d → i = j := by
  have hA' := hA.nodup
  subst e
  rw [List.length_map] at hl
  intro i j hi hj h
  have hi' : i < ps.length := by omega
  have hj' : j < ps.length := by omega
  have bi := hb _ (List.getElem_mem hi')
  have bj := hb _ (List.getElem_mem hj')
  simp only [List.getD_eq_getElem?_getD, List.getElem?_map, List.getElem?_eq_getElem hi', List.getElem?_eq_getElem hj', Option.map_some, Option.getD_some, List.getElem?_eq_getElem bi, List.getElem?_eq_getElem bj] at h
  exact (List.getElem_inj hp).mp ((List.getElem_inj hA').mp h)
theorem rows_start {nx : Led} : Rows2 nx [] none none := ⟨rfl, rfl, List.Perm.refl _⟩
theorem law_start {w : World} {mean : ExcName → Option Value} {mg mb : Str → Option Value} {h₀ : Heap} {L fa cc : Addr} {s0 : Shared} {Q : Flow → Shared → Prop} {m : Str → Option Value} {nx : Led}
    {b li al bk la to c d1 d2 d3 x1 x2 x3 r1 r2 r3 : Addr} {vs : List Value} {ns : List Int} {n2 nb : Nat} {oc oal obk ola oto o1 o2 o3 : Obj} {kc kb : List (Str × Value)} {ka : List (Int × Value)} {C : Cfg} {top mv now cnt : Int} {tm tn ts : Tok} {ps : List Nat}
    {e1 f1 e2 f2 e3 f3 f4 e5 f5 e6 f6 e7 f7 f8 e9 f9 e10 f10 e11 f11 f12}
    (B : Below callerA h₀ [] h₀) (F : Fr h₀ L s0.heap m) (X : (pre1.heap_1 w.params).In h₀) (N : News h₀ L s0.heap nx) (T : Top hd1.view_39 (looseW hd1.view_39 []) mean mg mb h₀)
    (m1 : m (Str.ofString "box") = some (.ref b)) (m2 : m (Str.ofString "joint") = some (.ref d3)) (m3 : m (Str.ofString "alone") = some (.ref al)) (m4 : m (Str.ofString "book") = some (.ref bk)) (m5 : m (Str.ofString "move") = some (.int mv tm)) (m6 : m (Str.ofString "now") = some (.int now tn))
    (hb : (b, W.listOf [.ref li, .int cnt ts].toArray nb) ∈ nx) (hli : (li, W.listOf vs.toArray n2) ∈ nx) (hal : (al, oal) ∈ nx) (hbk : (bk, obk) ∈ nx) (hla : (la, ola) ∈ nx) (hto : (to, oto) ∈ nx) (hc : (c, oc) ∈ nx)
    (hd1 : (d1, instObj 141 x1) ∈ nx) (hd2 : (d2, instObj 141 x2) ∈ nx) (hd3 : (d3, instObj 141 x3) ∈ nx)
    (hx1 : (x1, dictOf [⟨e1, .str (Str.ofString "config") f1, .ref c⟩, ⟨e2, .str (Str.ofString "rows") f2, .ref r1⟩, ⟨e3, .str (Str.ofString "top") f3, .int top f4⟩] 3) ∈ nx)
    (hx2 : (x2, dictOf [⟨e5, .str (Str.ofString "config") f5, .ref c⟩, ⟨e6, .str (Str.ofString "rows") f6, .ref r2⟩, ⟨e7, .str (Str.ofString "top") f7, .int top f8⟩] 3) ∈ nx)
    (hx3 : (x3, dictOf [⟨e9, .str (Str.ofString "config") f9, .ref c⟩, ⟨e10, .str (Str.ofString "rows") f10, .ref r3⟩, ⟨e11, .str (Str.ofString "top") f11, .int top f12⟩] 3) ∈ nx)
    (hr1 : (r1, o1) ∈ nx) (hr2 : (r2, o2) ∈ nx) (hr3 : (r3, o3) ∈ nx)
    (hi : IntsAre vs ns) (hlen : ns.length ≤ 100) (hcd : oc.IsDictOf (PySem.strKind Mine.XL.row.prog w) kc) (hald : oal.IsDictOf (PySem.intKind Mine.XL.row.prog w) ka) (hbkd : obk.IsDictOf (PySem.strKind Mine.XL.row.prog w) kb) (hlad : ola.IsDictOf (PySem.intKind Mine.XL.row.prog w) []) (htod : oto.IsDictOf (PySem.intKind Mine.XL.row.prog w) [])
    (hrd1 : o1.IsDictOf (PySem.intKind Mine.XL.row.prog w) []) (hrd2 : o2.IsDictOf (PySem.intKind Mine.XL.row.prog w) []) (hrd3 : o3.IsDictOf (PySem.intKind Mine.XL.row.prog w) []) (hrs1 : (r1 == sysModules) = false) (hrs2 : (r2 == sysModules) = false) (hrs3 : (r3 == sysModules) = false) (htos : (to == sysModules) = false)
    (a1 : valueAt ka 1 = some (.ref d1)) (a2 : valueAt ka 2 = some (.ref d2)) (b1 : valueAt kb (Str.ofString "last") = some (.ref la)) (b2 : valueAt kb (Str.ofString "told") = some (.ref to))
    (fc : CfgAt kc C) (okc : CfgOk C) (hmost : C.most ≤ C.half + 7) (htop : top = gpen C.reuse C.most C.half)
    (hde : DescL (nx.map (·.1))) (he : [b, li, al, bk, la, to, c, d1, d2, d3, x1, x2, x3, r1, r2, r3] = ps.map (fun p => (nx.map (·.1)).getD p b)) (hps : ps.Nodup) (hpb : ∀ p ∈ ps, p < (nx.map (·.1)).length)
    (hmv : 0 ≤ mv ∧ mv < 30) (hcnt : 0 ≤ cnt ∧ cnt ≤ 10) (hnow : now = 0)
    (ret : ∀ h' tk' m', Fr h₀ L h' m' → Q (.ret (.bool true)) { s0 with heap := h', toks := tk' }) :
    wpAny (model Mine.XL.row.prog w) (callerA.deeper (envOf (Str.ofString "law") lawScope L fa (.ref cc))) (execs (lawBody.drop 6) (envOf (Str.ofString "law") lawScope L fa (.ref cc))) Q
      (fun _ _ => False) s0 := by
  refine law_tail (a := { ad := fun i => [b, li, al, bk, la, to, c, d1, d2, d3, x1, x2, x3, r1, r2, r3].getD i b, vs, ns, n2, oc, oal, obk, kc, kb, ka, C, top }) mv tm B F X N T ⟨desc_inj hde he hps hpb rfl, hi, hlen, fc, okc, hmost, htop, hald, a1, a2, hbkd, b1, b2, htos⟩ hmv ?_ ret
  subst hnow
  refine ⟨{ cnt, ob := fun i => [o1, o2, o3].getD i o1, kv := fun _ => [], qa := fun _ => none, qb := fun _ => none, ola, oto, kl := [], kt := [], T := fun _ => none, L := fun _ => none, m := 0 }, none, none, 0, tn, m1, m2, m3, m4, m5, m6, ?_, ⟨⟨rfl, rfl, rfl, rfl, rfl, rfl⟩, WayOk.start, WayOk.start⟩, ⟨hcnt.1, by have := hcnt.2; show cnt ≤ 10 + 3 * ((0 : Nat) : Int); omega⟩, ⟨Int.le_refl _, by decide⟩, Nat.zero_le _⟩
  refine ⟨hde.nodup, ⟨_, _, hb⟩, hli, hal, hbk, hla, hlad, hto, htod, ⟨Nat.zero_le _, Nat.zero_le _⟩, ?_, fun _ _ => rows_start, fun _ _ => .inl rfl, fun _ _ _ h => nomatch h⟩
  intro i hi9
  have e : i = 0 ∨ i = 1 ∨ i = 2 := by omega
  rcases e with rfl | rfl | rfl
  · exact ⟨hd1, ⟨_, _, _, _, _, _, _, hx1⟩, hc, hcd, hr1, hrd1, hrs1, Nat.zero_le _⟩
  · exact ⟨hd2, ⟨_, _, _, _, _, _, _, hx2⟩, hc, hcd, hr2, hrd2, hrs2, Nat.zero_le _⟩
  · exact ⟨hd3, ⟨_, _, _, _, _, _, _, hx3⟩, hc, hcd, hr3, hrd3, hrs3, Nat.zero_le _⟩
theorem cfg_one {prog : Program} {w : World} {o : Obj} {kvs : List (Str × Value)} {C : Cfg} (h : o.IsDictOf (PySem.strKind prog w) kvs) (f : CfgAt kvs C) (hl : kvs.length ≤ 90) (ok : CfgOk C) (hm : C.most ≤ C.half + 7) :
    ∃ kc C', o.IsDictOf (PySem.strKind prog w) kc ∧ CfgAt kc C' ∧ kc.length ≤ 90 ∧ CfgOk C' ∧ C'.most ≤ C'.half + 7 := ⟨kvs, C, h, f, hl, ok, hm⟩
theorem damper_c {w : World} {mean : ExcName → Option Value} {mg mb : Str → Option Value} {news : Led} {c : Addr} {oc : Obj} {kc : List (Str × Value)} (C : Cfg)
    (hc : (c, oc) ∈ news) (hcd : oc.IsDictOf (PySem.strKind Mine.XL.row.prog w) kc) (ha : CfgAt kc C) (hok : CfgOk C) :
    CtrL w mean mg mb 141 4 40 news [.ref c] (fun res n => ∃ r o d x e1 f1 e2 f2 e3 f3 f4, n = (r, o) :: (d, instObj 141 x) :: (x, dictOf [⟨e1, .str (Str.ofString "config") f1, .ref c⟩, ⟨e2, .str (Str.ofString "rows") f2, .ref r⟩, ⟨e3, .str (Str.ofString "top") f3, .int (gpen C.reuse C.most C.half) f4⟩] 3) :: news ∧
      res = .ref d ∧ o.IsDictOf (PySem.intKind Mine.XL.row.prog w) [] ∧ (r == sysModules) = false ∧ d < r ∧ x < d ∧ ∀ p ∈ news, p.1 < x) := by
  (w_top off; k_with_none; (k_with "my updF" => (first | assumption | exact UpdF.tail (my_ne (by assumption) (by assumption)) (by assumption))); (k_with "my upd" => (first | exact updF_upd (hh9 _) _ | exact updF_upd (UpdF.tail (by k_ne) (hh9 _)) _)); (k_with "my mem" => (first | exact updF_new (by assumption) _ | exact updF_old (by assumption) (by assumption) (by assumption) | (refine List.mem_cons_of_mem _ ?_; k_mem) | (refine List.mem_append_right _ ?_; k_mem))); (k_with "my islist" => (exact News.isList (by k_asm) (by k_mem))); (k_with "my sub" => (intro p9 hp9; repeat (first | exact hp9 | assumption | refine List.mem_cons_of_mem _ ?_ | refine List.mem_append_right _ ?_))); (k_with "my fact" => (first | assumption | trivial | omega | (refine ⟨?_, ?_⟩ <;> omega) | ((try dsimp only); first | assumption | omega | l_fact))); (k_with "my len" => (first | assumption | (simp only [List.length_take]; omega) | l_fact | omega)); (k_with "call ref" => ((k_here; (with_reducible show wpAny _ _ (call (Value.ref 53) _) _ _ _); k_dflt (refine Ctr.cVal (by k_asm) (by k_asm) (by k_asm) (by k_asm) (by k_asm) (by first | exact rfl | assumption) (by (first | exact room3 (by assumption) (by rfl) | exact room2 (by assumption) (by rfl) | exact room1 (by assumption) | exact Nat.le_of_ble_eq_true rfl | ktr_room)) (by first | (first | exact room3 (by assumption) (by rfl) | exact room2 (by assumption) (by rfl) | exact room1 (by assumption) | exact Nat.le_of_ble_eq_true rfl | ktr_units) | exact Nat.le_of_ble_eq_true rfl | (have hcL9 := cLine_is; (try simp only [units_under_make, units_in1, units_deeper, Around.mark_units, units_caller] at *); (try dsimp only [ktrTop] at *); omega)) (check_damping_c _ (by k_mem) (by k_asm) (by k_asm) (by k_asm)) ?_); k_whole); intro h9 tk9 F9 N9; (try dsimp only); (try k_fold))); (k_with "call ref" => ((k_here; (with_reducible show wpAny _ _ (call (Value.ref 67) _) _ _ _); k_dflt (refine Ctr.cInt (by k_asm) (by k_asm) (by k_asm) (by k_asm) (by k_asm) (by first | exact rfl | assumption) (by (first | exact room3 (by assumption) (by rfl) | exact room2 (by assumption) (by rfl) | exact room1 (by assumption) | exact Nat.le_of_ble_eq_true rfl | ktr_room)) (by first | (first | exact room3 (by assumption) (by rfl) | exact room2 (by assumption) (by rfl) | exact room1 (by assumption) | exact Nat.le_of_ble_eq_true rfl | ktr_units) | exact Nat.le_of_ble_eq_true rfl | (have hcL9 := cLine_is; (try simp only [units_under_make, units_in1, units_deeper, Around.mark_units, units_caller] at *); (try dsimp only [ktrTop] at *); omega)) (greatest_penalty_c _ _ _ _ _ _ (by walk_at "my fact") (by walk_at "my fact") (by walk_at "my fact")) ?_); k_whole); intro h9 tk9 t9 F9 N9; (try dsimp only); (try k_fold))); (k_with "execs cons" => ((with_reducible show wpAny _ _ _ _ _ (Shared.mk _ _ _ (_ + _) _)); refine tok_any fun tk9 => ?_)); (k_with "execs nil" => ((with_reducible show wpAny _ _ _ _ _ (Shared.mk _ _ _ (_ + _) _)); refine tok_any fun tk9 => ?_)); (k_with "subscriptTail" => ((k_here; (with_reducible show wpAny _ _ (subscriptTail _ _ (Value.ref _) (Value.str _ _)) _ _ _); k_dflt (refine kda_item (knd := PySem.strKind _ _) (by k_asm) (by k_mem) (by k_asm) (strKind_is _ _ _ _) (by assumption) ?_); (try dsimp only)))))
  have ok := hok
  obtain ⟨⟨t1, v1⟩, ⟨t2, v2⟩, ⟨t3, v3⟩, ⟨t4, v4⟩, ⟨t5, v5⟩, ⟨t6, v6⟩, ⟨t7, v7⟩⟩ := id ha
  obtain ⟨o1, o2, o3, o4, o5, o6, o7⟩ := hok
  (unfold CtrL Ctr; k_fill; intro dp un gd cn cs a ccd cl outer A₀ base h₀ L m s0 Q E B F X N T hk hd hu hret; refine e_never ?_)
  k_dflt (refine call_cls (by k_asm) (by k_asm) (by k_asm) (by k_is) (by k_is) (by k_is) ?_)
  intro x9 d9 h1 F1 N1 l1 l2
  have hh9 : ∀ o, UpdF d9 o ((x9, instObj 141 d9) :: (d9, o) :: news) (fun o => (x9, instObj 141 d9) :: (d9, o) :: news) := fun o => .tail (Nat.ne_of_gt l2) (.head fun p hp => Nat.ne_of_lt (l1 p hp))
  have l1' := allLt_of l1
  (k_dflt ktr_enter)
  refine e_never ?_
  k_steps
  (rename Fr _ _ _ _ => fF)
  (rename News _ _ _ _ => fN)
  (rename _ ∧ _ ∧ AllLt _ _ => lT)
  exact hret _ _ _ _ fF fN ⟨_, _, _, _, _, _, _, _, _, _, _, rfl, rfl, by assumption, by assumption, lT.1, l2, l1⟩
section
variable {w : World} {mean : ExcName → Option Value} {mg mb : Str → Option Value} {news : Led} {c : Addr} {oc : Obj} {kc : List (Str × Value)}
variable {dp un : Nat} {gd : Option (List Code)} {cn : Str} {cs : Scope} {a : Addr} {ccd : Value} {cl : List (Str × Addr)} {outer : List Env} {A₀ : Around} {base h₀ : Heap} {L : Addr} {m : Str → Option Value} {s : Shared} {Q E : Value → Shared → Prop}
theorem damper_use (B : Below A₀ base outer h₀) (F : Fr h₀ L s.heap m) (X : (pre1.heap_1 w.params).In h₀) (N : News h₀ L s.heap news) (T : Top hd1.view_39 (looseW hd1.view_39 []) mean mg mb h₀) (hk : cs.kind = .function) (hd : dp + 4 < recursionLimit) (hu : un + 40 < cLine)
    (C : Cfg) (hc : (c, oc) ∈ news) (hcd : oc.IsDictOf (PySem.strKind Mine.XL.row.prog w) kc) (ha : CfgAt kc C) (hok : CfgOk C)
    (ret : ∀ h' tk' r o d x e1 f1 e2 f2 e3 f3 f4, o.IsDictOf (PySem.intKind Mine.XL.row.prog w) [] → (r == sysModules) = false → @LT.lt Nat _ d r → @LT.lt Nat _ x d → (∀ p ∈ news, @LT.lt Nat _ p.1 x) → Fr h₀ L h' m →
      News h₀ L h' ((r, o) :: (d, instObj 141 x) :: (x, dictOf [⟨e1, .str (Str.ofString "config") f1, .ref c⟩, ⟨e2, .str (Str.ofString "rows") f2, .ref r⟩, ⟨e3, .str (Str.ofString "top") f3, .int (gpen C.reuse C.most C.half) f4⟩] 3) :: news) → Q (.ref d) { s with heap := h', toks := tk' }) :
    wpAny (model Mine.XL.row.prog w) (ktrTop dp un gd cn cs L a ccd cl outer) (call (.ref 141) [.ref c]) Q E s :=
  (damper_c C hc hcd ha hok).use9 B F X N T hk hd hu fun _ _ h tk F9 N9 P => by
    obtain ⟨r, o, d, x, e1, f1, e2, f2, e3, f3, f4, rfl, rfl, z1, z2, z3, z4, z5⟩ := P
    exact ret h tk r o d x e1 f1 e2 f2 e3 f3 f4 z1 z2 z3 z4 z5 F9 N9
end
theorem led_drop {h₀ h : Heap} {L : Addr} {c t b l s : Addr × Obj} (N : News h₀ L h [c, t, b, l, s]) : News h₀ L h [c, b, l] := fun p hp => N p (by
  rcases List.mem_cons.mp hp with rfl | hp
  · exact .head _
  · rcases List.mem_cons.mp hp with rfl | hp
    · exact .tail _ (.tail _ (.head _))
    · rcases List.mem_cons.mp hp with rfl | hp
      · exact .tail _ (.tail _ (.tail _ (.head _)))
      · cases hp)
theorem law_walk {w : World} {mean : ExcName → Option Value} {mg mb : Str → Option Value} {h₀ : Heap} {L fa cc l : Addr} {vs : List Value} {ns : List Int} {s0 : Shared} {Q : Flow → Shared → Prop}
    (B : Below callerA h₀ [] h₀) (F : Fr h₀ L s0.heap (fun x => List.lookup x [(Str.ofString "script", Value.ref l)].reverse)) (X : (pre1.heap_1 w.params).In h₀) (N : News h₀ L s0.heap []) (T : Top hd1.view_39 (looseW hd1.view_39 []) mean mg mb h₀)
    (hl : h₀.IsList l vs.toArray) (hi : IntsAre vs ns) (hlen : ns.length ≤ 63)
    (ret : ∀ h' tk' m', Fr h₀ L h' m' → Q (.ret (.bool true)) { s0 with heap := h', toks := tk' }) :
    wpAny (model Mine.XL.row.prog w) (callerA.deeper (envOf (Str.ofString "law") lawScope L fa (.ref cc))) (execs lawBody (envOf (Str.ofString "law") lawScope L fa (.ref cc))) Q
      (fun _ _ => False) s0 := by
  (w_top off; k_with_none; (k_with "my proj" => (first | assumption | exact And.left (by assumption) | exact And.left (And.right (by assumption)) | exact And.left (And.right (And.right (by assumption))) | exact And.left (And.right (And.right (And.right (by assumption)))) | exact And.left (And.right (And.right (And.right (And.right (by assumption))))) | exact And.left (And.right (And.right (And.right (And.right (And.right (by assumption)))))) | exact And.left (And.right (And.right (And.right (And.right (And.right (And.right (by assumption))))))) | exact And.left (And.right (And.right (And.right (And.right (And.right (And.right (And.right (by assumption)))))))) | exact And.left (And.right (And.right (And.right (And.right (And.right (And.right (And.right (And.right (by assumption))))))))) | exact And.left (And.right (And.right (And.right (And.right (And.right (And.right (And.right (And.right (And.right (by assumption)))))))))) | exact And.left (And.right (And.right (And.right (And.right (And.right (And.right (And.right (And.right (And.right (And.right (by assumption))))))))))) | exact And.left (And.right (And.right (And.right (And.right (And.right (And.right (And.right (And.right (And.right (And.right (And.right (by assumption)))))))))))) | exact And.left (And.right (And.right (And.right (And.right (And.right (And.right (And.right (And.right (And.right (And.right (And.right (And.right (by assumption))))))))))))) | exact And.left (And.right (And.right (And.right (And.right (And.right (And.right (And.right (And.right (And.right (And.right (And.right (And.right (And.right (by assumption)))))))))))))) | exact And.left (And.right (And.right (And.right (And.right (And.right (And.right (And.right (And.right (And.right (And.right (And.right (And.right (And.right (And.right (by assumption))))))))))))))) | exact And.left (And.right (And.right (And.right (And.right (And.right (And.right (And.right (And.right (And.right (And.right (And.right (And.right (And.right (And.right (And.right (by assumption)))))))))))))))) | exact And.left (And.right (And.right (And.right (And.right (And.right (And.right (And.right (And.right (And.right (And.right (And.right (And.right (And.right (And.right (And.right (And.right (by assumption))))))))))))))))) | exact And.left (And.right (And.right (And.right (And.right (And.right (And.right (And.right (And.right (And.right (And.right (And.right (And.right (And.right (And.right (And.right (And.right (And.right (by assumption)))))))))))))))))) | exact And.left (And.right (And.right (And.right (And.right (And.right (And.right (And.right (And.right (And.right (And.right (And.right (And.right (And.right (And.right (And.right (And.right (And.right (And.right (by assumption))))))))))))))))))) | exact And.left (And.right (And.right (And.right (And.right (And.right (And.right (And.right (And.right (And.right (And.right (And.right (And.right (And.right (And.right (And.right (And.right (And.right (And.right (And.right (by assumption)))))))))))))))))))) | exact (And.right (by assumption)) | exact (And.right (And.right (by assumption))) | exact (And.right (And.right (And.right (by assumption)))))); (k_with "my ne" => (first | exact Nat.ne_of_gt (by walk_at "my proj") | exact Nat.ne_of_lt (by walk_at "my proj") | k_ne)); (k_with "my all" => (first | exact List.forall_mem_nil _ | exact List.forall_mem_cons.mpr ⟨by walk_at "my ne", by walk_at "my all"⟩)); (k_with "my updF" => (first | assumption | exact UpdF.head (by walk_at "my all") | exact UpdF.tail (by walk_at "my ne") (by k_updF))); (k_with "my fact" => (first | assumption | trivial | omega | (refine ⟨?_, ?_⟩ <;> omega) | ((try dsimp only); first | assumption | omega | l_fact))); (k_with "call builtin:min" => ((k_here; (with_reducible show wpAny _ _ (call (Value.builtin _) [Value.int _ _, Value.int _ _, Value.int _ _]) _ _ _); (with_unfolding_all refine my_min3 (by with_unfolding_all rfl) (by k_asm) (by k_asm) ?_); k_whole); intro v9 t9 h9 tk9 c9 F9 N9; (have d9 := c9 (by omega)); clear c9; (try dsimp only))); (k_with "call ref" => ((k_here; (with_reducible show wpAny _ _ (call (Value.ref 152) _) _ _ _); k_dflt (refine Ctr.cDraw (by k_asm) (by k_asm) (by k_asm) (by k_asm) (by k_asm) (by first | exact rfl | assumption) (by (first | exact room3 (by assumption) (by rfl) | exact room2 (by assumption) (by rfl) | exact room1 (by assumption) | exact Nat.le_of_ble_eq_true rfl | ktr_room)) (by first | (first | exact room3 (by assumption) (by rfl) | exact room2 (by assumption) (by rfl) | exact room1 (by assumption) | exact Nat.le_of_ble_eq_true rfl | ktr_units) | exact Nat.le_of_ble_eq_true rfl | (have hcL9 := cLine_is; (try simp only [units_under_make, units_in1, units_deeper, Around.mark_units, units_caller] at *); (try dsimp only [ktrTop] at *); omega)) (law_draw_c _ _ _ _ (by k_updF) (by k_mem) (by walk_at "my ne") (by l_ints) (by walk_at "my len") (by walk_at "my fact") (by walk_at "my fact")) ?_); k_whole); intro h9 tk9 v9 t9 u9 m9 lo9 hi9 F9 N9; (try dsimp only at N9); (try dsimp only); (try k_fold))); (k_with "my len" => (first | assumption | (simp only [List.length_take]; omega) | l_fact | omega)); (k_with "call ref" => ((k_here; (with_reducible show wpAny _ _ (call (Value.ref 141) _) _ _ _); k_dflt (refine damper_use (by k_asm) (by k_asm) (by k_asm) (by k_asm) (by k_asm) (by first | exact rfl | assumption) (by (first | exact room3 (by assumption) (by rfl) | exact room2 (by assumption) (by rfl) | exact room1 (by assumption) | exact Nat.le_of_ble_eq_true rfl | ktr_room)) (by exact Nat.le_of_ble_eq_true rfl) C1 (by k_mem) (by k_asm) (by k_asm) (by k_asm) ?_); k_whole); intro h9 tk9 r9 o9 d9 x9 e91 e92 e93 e94 e95 e96 e97 dd9 lo9 ld9 lx9 lt9 F9 N9; (replace lt9 := allLt_of lt9); (simp only [AllLt, and_true] at lt9); (try dsimp only); (try k_fold))); (k_with "execs cons" => ((with_reducible show wpAny _ _ _ _ _ (Shared.mk _ _ _ (_ + _) _)); refine tok_any fun tk9 => ?_)); (k_with "execs nil" => ((with_reducible show wpAny _ _ _ _ _ (Shared.mk _ _ _ (_ + _) _)); refine tok_any fun tk9 => ?_)); (k_with "subscriptTail" => ((k_here; (with_reducible show wpAny _ _ (subscriptTail _ _ (Value.ref _) (Value.str _ _)) _ _ _); k_dflt (refine kda_item (knd := PySem.strKind _ _) (by k_asm) (by k_mem) (by k_asm) (strKind_is _ _ _ _) (by assumption) ?_); (try dsimp only)))); (k_with "setItem ref str" => ((k_here; k_dflt (refine kda_set (knd := PySem.strKind _ _) (by k_asm) (by k_asm) (by k_updF) (by k_asm) (strKind_is _ _ _ _) (by rw [sizeLine_eq]; omega) ?_); intro h9 o9 F9 N9 hd9; (try dsimp only at N9); (try dsimp only)))); (k_with "execs cons" => ((with_reducible show wpAny _ _ (execs (Stmt.Assign [Expr.Tuple (Expr.Name (Str.ofString "joint") _ :: _) _ _] _ _ :: _) _) _ _ _); refine Stop.mk ?_)); (k_with "execs cons" => ((with_reducible show wpAny _ _ (execs (Stmt.For _ _ _ _ _ :: _) _) _ _ _); refine Stop.mk ?_)))
  have hlen40 : (List.take 40 ns).length ≤ 100 := by rw [List.length_take]; exact Nat.le_trans (Nat.min_le_left 40 _) (by decide)
  revert X
  k_fill
  intro X
  dsimp only [lawBody, lawScope, lawStmt, bodyOf, scopeOf, PySem.Challenge.pw_sj0173_01, List.getLast?, List.getLast, Option.getD_some, Option.getD]
  (try k_fold)
  k_steps
  refine Stop.go (wpAny_execs_cons ?_)
  (rename Obj.IsDictOf _ _ _ => hd1)
  refine ex2_5 (cfg_one (C := ⟨_, _, _, _, _, _, _⟩) hd1 ⟨⟨_, by rfl⟩, ⟨_, by rfl⟩, ⟨_, by rfl⟩, ⟨_, by rfl⟩, ⟨_, by rfl⟩, ⟨_, by rfl⟩, ⟨_, by rfl⟩⟩ (Nat.le_of_ble_eq_true rfl) (by refine ⟨?_, ?_, ?_, ?_, ?_, ?_, ?_⟩ <;> (dsimp only; omega)) (by dsimp only; omega)) fun kc1 C1 hd2 fc l1 okc hm1 => ?_
  clear hd1
  (rename News _ _ _ _ => lN9)
  replace lN9 := led_drop lN9
  (repeat ((rename PyProof.V.FlatPairs _ _ _ => hfp); clear hfp))
  (try dsimp only)
  (try k_fold)
  k_steps
  refine Stop.go ?_
  (rename Fr _ _ _ _ => lF)
  (rename News _ _ _ _ => lN)
  refine' law_start (ps := [16, 17, 11, 3, 2, 1, 15, 9, 6, 13, 10, 7, 14, 8, 5, 12]) (C := C1) B lF X lN T rfl rfl rfl rfl rfl rfl ?ya1 ?ya2 ?ya3 ?ya4 ?ya5 ?ya6 ?ya7 ?ya8 ?ya9 ?yb1 ?yb2 ?yb3 ?yb4 ?yb5 ?yb6 ?yb7 ?yc1 ?yc2 hd2 ?yc4 ?yc5 ?yc6 ?yc7 ?yd1 ?yd2 ?yd3 ?yd4 ?yd5 ?yd6 ?yd7 ?ye1 ?ye2 ?ye3 ?ye4 fc okc hm1 rfl ?yf1 ?yf2 ?yf3 ?yf4 ⟨lo9, hi9⟩ ?yf5 rfl ret
  (case ya1 => k_mem)
  (case ya3 => k_mem)
  (case ya4 => k_mem)
  (case yc4 => k_asm)
  (case yc5 => k_asm)
  (case ye1 => rfl)
  (case ye2 => rfl)
  (case ye3 => rfl)
  (case ye4 => rfl)
  (case ya2 => k_mem)
  (case ya5 => k_mem)
  (case ya6 => k_mem)
  (case ya8 => k_mem)
  (case ya9 => k_mem)
  (case yb1 => k_mem)
  (case yb2 => k_mem)
  (case yb3 => k_mem)
  (case yb4 => k_mem)
  (case ya7 => k_mem)
  (case yb5 => k_mem)
  (case yb6 => k_mem)
  (case yb7 => k_mem)
  (case yc1 => l_ints)
  (case yc2 => walk_at "my len")
  (case yc6 => k_asm)
  (case yc7 => k_asm)
  (case yd1 => k_asm)
  (case yd2 => k_asm)
  (case yd3 => k_asm)
  (case yd4 => k_asm)
  (case yd5 => k_asm)
  (case yd6 => k_asm)
  (case yd7 => k_asm)
  (case yf1 => simp only [List.map_cons, List.map_nil, DescL, and_true]; (repeat' apply And.intro) <;> first | assumption | exact And.left (by assumption) | omega)
  (case yf2 => rfl)
  (case yf3 => decide)
  (case yf4 => intro p hp; exact Nat.lt_of_lt_of_le (m := 18) (by revert p; decide) (Nat.le_of_ble_eq_true rfl))
  (case yf5 => exact ⟨by omega, by omega⟩)
end Mine
open Mine
theorem PySem.Challenge.cw_sj0173_01_holds : PySem.Challenge.rw_sj0173_01.Holds :=
  XL_holds (hd1 (by
  k_with_none
  k_go0
  (rename Below _ _ _ _ => b0)
  (rename Fr _ _ _ _ => f0)
  (rename News _ _ _ _ => n0)
  refine e_never (law_walk b0 f0 (by rw [← K2_eq]; assumption) n0 (by assumption) (by assumption) (by assumption) (by omega) ?_)
  intro h' tk' m' F'
  dsimp only
  wrow_close))
