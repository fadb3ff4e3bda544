import PyProof.Rows.All
import Wide.All
import OpenK.AllK
import Wide.FinOn
import KE.KPairTest
import PyProof.Rows.StrStrike
import Lean
import PySem.Challenge.RW_sa0053_01
set_option Elab.async false
set_option maxRecDepth 100000
set_option maxHeartbeats 8000000
/-! part Top53 -/
section
open PySem PySem.W PyProof.Rows
namespace Mine
open_top hd for PySem.Challenge.rw_sa0053_01
end Mine
end
/-! part Base53 -/
section
open PySem PySem.W PyProof.Rows
namespace Mine

abbrev Ledger := List (Addr × Obj)

/-- what a call of f with vs does, wherever it is made: the ledger news goes over into one that R tells -/
def Ctr (prog : Program) (w : World) (p : Program) (loose : List Str) (mean : ExcName → Option Value) (mg mb : Str → Option Value) (f : Addr) (need : Nat) (vs : List Value) (news : Ledger) (R : Value → Ledger → Prop) : Prop :=
  ∀ (dp un : Nat) (gd : Option (List Code)) (cn : Str) (cs : Scope) (a : Addr) (ccd : Value) (cl : List (Str × Addr)) (outer : List Env) (A₀ : Around) (base h₀ : Heap) (L : Addr) (m : Str → Option Value) (s : Shared) (Q E : Value → Shared → Prop),
    Below A₀ base outer h₀ → Fr h₀ L s.heap m → (hd.heap_39 w.params).In h₀ → News h₀ L s.heap news → Top p loose mean mg mb h₀ → cs.kind = .function →
    dp + need < recursionLimit → un + 8 * need < cLine →
    (∀ v news' h' tk', R v news' → Fr h₀ L h' m → News h₀ L h' news' → Q v { s with heap := h', toks := tk' }) →
    wpAny (model prog w) (ktrTop dp un gd cn cs L a ccd cl outer) (call (.ref f) vs) Q E s

abbrev pageD (P : Params) (t1 t2 : Tok) (o : Addr) (rv : Value) : List DictEntry :=
  [⟨PyData.keyHash P (Str.ofString "out"), .str (Str.ofString "out") t1, .ref o⟩, ⟨PyData.keyHash P (Str.ofString "row"), .str (Str.ofString "row") t2, rv⟩]

theorem Ctr.of {prog : Program} {w : World} {p : Program} {loose : List Str} {mean : ExcName → Option Value} {mg mb : Str → Option Value} {f : Addr} {need : Nat} {vs : List Value} {news : Ledger} {R : Value → Ledger → Prop}
    (H : ∀ (dp un : Nat) (gd : Option (List Code)) (cn : Str) (cs : Scope) (a : Addr) (ccd : Value) (cl : List (Str × Addr)) (outer : List Env) (A₀ : Around) (base h₀ : Heap) (L : Addr) (m : Str → Option Value) (hp : Heap) (gn : Array GenState) (dr : Drawn) (tk0 : Nat) (os0 : OsState) (Q E : Value → Shared → Prop),
    Below A₀ base outer h₀ → Fr h₀ L hp m → (hd.heap_39 w.params).In h₀ → News h₀ L hp news → Top p loose mean mg mb h₀ → cs.kind = .function →
    dp + need < recursionLimit → un + 8 * need < cLine →
    (∀ v news' h' tk', R v news' → Fr h₀ L h' m → News h₀ L h' news' → Q v ⟨h', gn, dr, tk', os0⟩) →
    wpAny (model prog w) (ktrTop dp un gd cn cs L a ccd cl outer) (call (.ref f) vs) Q E ⟨hp, gn, dr, tk0, os0⟩) : Ctr prog w p loose mean mg mb f need vs news R :=
  fun dp un gd cn cs a ccd cl outer A₀ base h₀ L m s Q E B F X N T hk hd hu ret => H dp un gd cn cs a ccd cl outer A₀ base h₀ L m s.heap s.gens s.drawn s.toks s.os Q E B F X N T hk hd hu ret
theorem nameL {α : Type} {M : Model} {A : Around} {t : Sem α} {Q : α → Shared → Prop} {E : Value → Shared → Prop} {s : Shared} (H : let ak := A; wpAny M ak t Q E s) : wpAny M A t Q E s := H
theorem nameE {M : Model} {A : Around} {b : List Stmt} {env : Env} {Q : Flow → Shared → Prop} {E : Value → Shared → Prop} {s : Shared} (H : let ev := env; wpAny M A (execs b ev) Q E s) : wpAny M A (execs b env) Q E s := H
theorem Ctr.use {prog : Program} {w : World} {p : Program} {loose : List Str} {mean : ExcName → Option Value} {mg mb : Str → Option Value} {f : Addr} {need : Nat} {vs : List Value} {news : Ledger} {R : Value → Ledger → Prop}
    {dp un : Nat} {gd : Option (List Code)} {cn : Str} {cs : Scope} {a : Addr} {ccd : Value} {cl : List (Str × Addr)} {outer : List Env} {A₀ : Around} {base h₀ : Heap} {L : Addr} {m : Str → Option Value} {s : Shared} {Q E : Value → Shared → Prop}
    (C : Ctr prog w p loose mean mg mb f need vs news R) (B : Below A₀ base outer h₀) (F : Fr h₀ L s.heap m) (X : (hd.heap_39 w.params).In h₀) (N : News h₀ L s.heap news) (T : Top p loose mean mg mb h₀) (hk : cs.kind = .function)
    (hd : dp + need < recursionLimit) (hu : un + 8 * need < cLine)
    (ret : ∀ v news' h' tk', R v news' → Fr h₀ L h' m → News h₀ L h' news' → Q v { s with heap := h', toks := tk' }) :
    wpAny (model prog w) (ktrTop dp un gd cn cs L a ccd cl outer) (call (.ref f) vs) Q E s := C _ _ _ _ _ _ _ _ _ _ _ _ _ _ _ _ _ B F X N T hk hd hu ret
theorem Ctr.useB {prog : Program} {w : World} {p : Program} {loose : List Str} {mean : ExcName → Option Value} {mg mb : Str → Option Value} {f : Addr} {need : Nat} {vs : List Value} {news : Ledger}
    {dp un : Nat} {gd : Option (List Code)} {cn : Str} {cs : Scope} {a : Addr} {ccd : Value} {cl : List (Str × Addr)} {outer : List Env} {A₀ : Around} {base h₀ : Heap} {L : Addr} {m : Str → Option Value} {s : Shared} {Q E : Value → Shared → Prop} {V : Value} {own' : Ledger}
    (C : Ctr prog w p loose mean mg mb f need vs news (fun v news' => v = V ∧ news' = own')) (B : Below A₀ base outer h₀) (F : Fr h₀ L s.heap m) (X : (hd.heap_39 w.params).In h₀) (N : News h₀ L s.heap news) (T : Top p loose mean mg mb h₀) (hk : cs.kind = .function)
    (hd : dp + need < recursionLimit) (hu : un + 8 * need < cLine)
    (ret : ∀ h' tk', Fr h₀ L h' m → News h₀ L h' own' → Q V { s with heap := h', toks := tk' }) :
    wpAny (model prog w) (ktrTop dp un gd cn cs L a ccd cl outer) (call (.ref f) vs) Q E s :=
  C.use B F X N T hk hd hu (by rintro v9 n9 h9 tk9 ⟨rfl, rfl⟩ F9 N9; exact ret h9 tk9 F9 N9)
theorem Ctr.useI {prog : Program} {w : World} {p : Program} {loose : List Str} {mean : ExcName → Option Value} {mg mb : Str → Option Value} {f : Addr} {need : Nat} {vs : List Value} {news : Ledger}
    {dp un : Nat} {gd : Option (List Code)} {cn : Str} {cs : Scope} {a : Addr} {ccd : Value} {cl : List (Str × Addr)} {outer : List Env} {A₀ : Around} {base h₀ : Heap} {L : Addr} {m : Str → Option Value} {s : Shared} {Q E : Value → Shared → Prop} {z : Int} {own' : Ledger}
    (C : Ctr prog w p loose mean mg mb f need vs news (fun v news' => ∃ t, v = .int z t ∧ news' = own')) (B : Below A₀ base outer h₀) (F : Fr h₀ L s.heap m) (X : (hd.heap_39 w.params).In h₀) (N : News h₀ L s.heap news) (T : Top p loose mean mg mb h₀) (hk : cs.kind = .function)
    (hd : dp + need < recursionLimit) (hu : un + 8 * need < cLine)
    (ret : ∀ t h' tk', Fr h₀ L h' m → News h₀ L h' own' → Q (.int z t) { s with heap := h', toks := tk' }) :
    wpAny (model prog w) (ktrTop dp un gd cn cs L a ccd cl outer) (call (.ref f) vs) Q E s :=
  C.use B F X N T hk hd hu (by rintro v9 n9 h9 tk9 ⟨t9, rfl, rfl⟩ F9 N9; exact ret t9 h9 tk9 F9 N9)
theorem news_of {h₀ : Heap} {L : Addr} {h : Heap} {l l' : Ledger} (N : News h₀ L h l) (hs : ∀ p ∈ l', p ∈ l) : News h₀ L h l' := fun p hp => N p (hs p hp)

theorem newsC {h₀ : Heap} {L : Addr} {h : Heap} {p : Addr × Obj} {l l' : Ledger} (N : News h₀ L h l') (hm : p ∈ l') (t : News h₀ L h l) : News h₀ L h (p :: l) := by
  intro q hq
  rcases List.mem_cons.mp hq with e | hq
  · rw [e]; exact N _ hm
  · exact t q hq
theorem subC {p : Addr × Obj} {l l' : Ledger} (hm : p ∈ l') (t : ∀ q ∈ l, q ∈ l') : ∀ q ∈ p :: l, q ∈ l' := by
  intro q hq
  rcases List.mem_cons.mp hq with e | hq
  · rw [e]; exact hm
  · exact t q hq
theorem rot {h₀ : Heap} {L : Addr} {h : Heap} (A : Ledger) {x y z : Addr × Obj} {own : Ledger} (N : News h₀ L h (A ++ x :: y :: z :: own)) : News h₀ L h (x :: y :: z :: (A ++ own)) := by
  refine news_of N fun p hp => ?_
  rcases List.mem_cons.mp hp with rfl | hp
  · exact List.mem_append_right _ (.head _)
  rcases List.mem_cons.mp hp with rfl | hp
  · exact List.mem_append_right _ (.tail _ (.head _))
  rcases List.mem_cons.mp hp with rfl | hp
  · exact List.mem_append_right _ (.tail _ (.tail _ (.head _)))
  rcases List.mem_append.mp hp with hp | hp
  · exact List.mem_append_left _ hp
  · exact List.mem_append_right _ (.tail _ (.tail _ (.tail _ hp)))
theorem off_cons3 {a : Addr × Obj} {own : Ledger} {x y z : Addr} (h1 : @Ne Nat a.1 x) (h2 : @Ne Nat a.1 y) (h3 : @Ne Nat a.1 z) (h : OwnOff own [x, y, z]) : OwnOff (a :: own) [x, y, z] := by
  intro p hp b hb
  rcases List.mem_cons.mp hp with rfl | hp
  · rcases List.mem_cons.mp hb with rfl | hb
    · exact h1
    rcases List.mem_cons.mp hb with rfl | hb
    · exact h2
    rcases List.mem_cons.mp hb with rfl | hb
    · exact h3
    · nomatch hb
  · exact h p hp b hb
theorem off_cons2 {a : Addr × Obj} {own : Ledger} {x y : Addr} (h1 : @Ne Nat a.1 x) (h2 : @Ne Nat a.1 y) (h : OwnOff own [x, y]) : OwnOff (a :: own) [x, y] := by
  intro p hp b hb
  rcases List.mem_cons.mp hp with rfl | hp
  · rcases List.mem_cons.mp hb with rfl | hb
    · exact h1
    rcases List.mem_cons.mp hb with rfl | hb
    · exact h2
    · nomatch hb
  · exact h p hp b hb

section
variable {a b : Nat}
theorem neQ0 {p : Prop} (h : a ≠ b ∧ p) : a ≠ b := h.1
theorem neQ1 {q0 p : Prop} (h : q0 ∧ a ≠ b ∧ p) : a ≠ b := h.2.1
theorem neQ2 {q0 q1 p : Prop} (h : q0 ∧ q1 ∧ a ≠ b ∧ p) : a ≠ b := h.2.2.1
theorem neQ3 {q0 q1 q2 p : Prop} (h : q0 ∧ q1 ∧ q2 ∧ a ≠ b ∧ p) : a ≠ b := h.2.2.2.1
theorem neQ4 {q0 q1 q2 q3 p : Prop} (h : q0 ∧ q1 ∧ q2 ∧ q3 ∧ a ≠ b ∧ p) : a ≠ b := h.2.2.2.2.1
theorem neQ5 {q0 q1 q2 q3 q4 p : Prop} (h : q0 ∧ q1 ∧ q2 ∧ q3 ∧ q4 ∧ a ≠ b ∧ p) : a ≠ b := h.2.2.2.2.2.1
theorem neQ6 {q0 q1 q2 q3 q4 q5 p : Prop} (h : q0 ∧ q1 ∧ q2 ∧ q3 ∧ q4 ∧ q5 ∧ a ≠ b ∧ p) : a ≠ b := h.2.2.2.2.2.2.1
theorem neQ7 {q0 q1 q2 q3 q4 q5 q6 p : Prop} (h : q0 ∧ q1 ∧ q2 ∧ q3 ∧ q4 ∧ q5 ∧ q6 ∧ a ≠ b ∧ p) : a ≠ b := h.2.2.2.2.2.2.2.1
theorem neQ8 {q0 q1 q2 q3 q4 q5 q6 q7 p : Prop} (h : q0 ∧ q1 ∧ q2 ∧ q3 ∧ q4 ∧ q5 ∧ q6 ∧ q7 ∧ a ≠ b ∧ p) : a ≠ b := h.2.2.2.2.2.2.2.2.1
theorem neQ9 {q0 q1 q2 q3 q4 q5 q6 q7 q8 p : Prop} (h : q0 ∧ q1 ∧ q2 ∧ q3 ∧ q4 ∧ q5 ∧ q6 ∧ q7 ∧ q8 ∧ a ≠ b ∧ p) : a ≠ b := h.2.2.2.2.2.2.2.2.2.1
theorem neL0 {p : Prop} (h : a < b ∧ p) : a ≠ b := Nat.ne_of_lt h.1
theorem neR0 {p : Prop} (h : b < a ∧ p) : a ≠ b := Nat.ne_of_gt h.1
theorem neL1 {q0 p : Prop} (h : q0 ∧ a < b ∧ p) : a ≠ b := Nat.ne_of_lt h.2.1
theorem neR1 {q0 p : Prop} (h : q0 ∧ b < a ∧ p) : a ≠ b := Nat.ne_of_gt h.2.1
theorem neL2 {q0 q1 p : Prop} (h : q0 ∧ q1 ∧ a < b ∧ p) : a ≠ b := Nat.ne_of_lt h.2.2.1
theorem neR2 {q0 q1 p : Prop} (h : q0 ∧ q1 ∧ b < a ∧ p) : a ≠ b := Nat.ne_of_gt h.2.2.1
theorem neL3 {q0 q1 q2 p : Prop} (h : q0 ∧ q1 ∧ q2 ∧ a < b ∧ p) : a ≠ b := Nat.ne_of_lt h.2.2.2.1
theorem neR3 {q0 q1 q2 p : Prop} (h : q0 ∧ q1 ∧ q2 ∧ b < a ∧ p) : a ≠ b := Nat.ne_of_gt h.2.2.2.1
theorem neL4 {q0 q1 q2 q3 p : Prop} (h : q0 ∧ q1 ∧ q2 ∧ q3 ∧ a < b ∧ p) : a ≠ b := Nat.ne_of_lt h.2.2.2.2.1
theorem neR4 {q0 q1 q2 q3 p : Prop} (h : q0 ∧ q1 ∧ q2 ∧ q3 ∧ b < a ∧ p) : a ≠ b := Nat.ne_of_gt h.2.2.2.2.1
theorem neL5 {q0 q1 q2 q3 q4 p : Prop} (h : q0 ∧ q1 ∧ q2 ∧ q3 ∧ q4 ∧ a < b ∧ p) : a ≠ b := Nat.ne_of_lt h.2.2.2.2.2.1
theorem neR5 {q0 q1 q2 q3 q4 p : Prop} (h : q0 ∧ q1 ∧ q2 ∧ q3 ∧ q4 ∧ b < a ∧ p) : a ≠ b := Nat.ne_of_gt h.2.2.2.2.2.1
theorem neL6 {q0 q1 q2 q3 q4 q5 p : Prop} (h : q0 ∧ q1 ∧ q2 ∧ q3 ∧ q4 ∧ q5 ∧ a < b ∧ p) : a ≠ b := Nat.ne_of_lt h.2.2.2.2.2.2.1
theorem neR6 {q0 q1 q2 q3 q4 q5 p : Prop} (h : q0 ∧ q1 ∧ q2 ∧ q3 ∧ q4 ∧ q5 ∧ b < a ∧ p) : a ≠ b := Nat.ne_of_gt h.2.2.2.2.2.2.1
theorem neL7 {q0 q1 q2 q3 q4 q5 q6 p : Prop} (h : q0 ∧ q1 ∧ q2 ∧ q3 ∧ q4 ∧ q5 ∧ q6 ∧ a < b ∧ p) : a ≠ b := Nat.ne_of_lt h.2.2.2.2.2.2.2.1
theorem neR7 {q0 q1 q2 q3 q4 q5 q6 p : Prop} (h : q0 ∧ q1 ∧ q2 ∧ q3 ∧ q4 ∧ q5 ∧ q6 ∧ b < a ∧ p) : a ≠ b := Nat.ne_of_gt h.2.2.2.2.2.2.2.1
theorem neL8 {q0 q1 q2 q3 q4 q5 q6 q7 p : Prop} (h : q0 ∧ q1 ∧ q2 ∧ q3 ∧ q4 ∧ q5 ∧ q6 ∧ q7 ∧ a < b ∧ p) : a ≠ b := Nat.ne_of_lt h.2.2.2.2.2.2.2.2.1
theorem neR8 {q0 q1 q2 q3 q4 q5 q6 q7 p : Prop} (h : q0 ∧ q1 ∧ q2 ∧ q3 ∧ q4 ∧ q5 ∧ q6 ∧ q7 ∧ b < a ∧ p) : a ≠ b := Nat.ne_of_gt h.2.2.2.2.2.2.2.2.1
theorem neL9 {q0 q1 q2 q3 q4 q5 q6 q7 q8 p : Prop} (h : q0 ∧ q1 ∧ q2 ∧ q3 ∧ q4 ∧ q5 ∧ q6 ∧ q7 ∧ q8 ∧ a < b ∧ p) : a ≠ b := Nat.ne_of_lt h.2.2.2.2.2.2.2.2.2.1
theorem neR9 {q0 q1 q2 q3 q4 q5 q6 q7 q8 p : Prop} (h : q0 ∧ q1 ∧ q2 ∧ q3 ∧ q4 ∧ q5 ∧ q6 ∧ q7 ∧ q8 ∧ b < a ∧ p) : a ≠ b := Nat.ne_of_gt h.2.2.2.2.2.2.2.2.2.1
theorem neL10 {q0 q1 q2 q3 q4 q5 q6 q7 q8 q9 p : Prop} (h : q0 ∧ q1 ∧ q2 ∧ q3 ∧ q4 ∧ q5 ∧ q6 ∧ q7 ∧ q8 ∧ q9 ∧ a < b ∧ p) : a ≠ b := Nat.ne_of_lt h.2.2.2.2.2.2.2.2.2.2.1
theorem neR10 {q0 q1 q2 q3 q4 q5 q6 q7 q8 q9 p : Prop} (h : q0 ∧ q1 ∧ q2 ∧ q3 ∧ q4 ∧ q5 ∧ q6 ∧ q7 ∧ q8 ∧ q9 ∧ b < a ∧ p) : a ≠ b := Nat.ne_of_gt h.2.2.2.2.2.2.2.2.2.2.1
theorem neL11 {q0 q1 q2 q3 q4 q5 q6 q7 q8 q9 q10 p : Prop} (h : q0 ∧ q1 ∧ q2 ∧ q3 ∧ q4 ∧ q5 ∧ q6 ∧ q7 ∧ q8 ∧ q9 ∧ q10 ∧ a < b ∧ p) : a ≠ b := Nat.ne_of_lt h.2.2.2.2.2.2.2.2.2.2.2.1
theorem neR11 {q0 q1 q2 q3 q4 q5 q6 q7 q8 q9 q10 p : Prop} (h : q0 ∧ q1 ∧ q2 ∧ q3 ∧ q4 ∧ q5 ∧ q6 ∧ q7 ∧ q8 ∧ q9 ∧ q10 ∧ b < a ∧ p) : a ≠ b := Nat.ne_of_gt h.2.2.2.2.2.2.2.2.2.2.2.1
theorem neL12 {q0 q1 q2 q3 q4 q5 q6 q7 q8 q9 q10 q11 p : Prop} (h : q0 ∧ q1 ∧ q2 ∧ q3 ∧ q4 ∧ q5 ∧ q6 ∧ q7 ∧ q8 ∧ q9 ∧ q10 ∧ q11 ∧ a < b ∧ p) : a ≠ b := Nat.ne_of_lt h.2.2.2.2.2.2.2.2.2.2.2.2.1
theorem neR12 {q0 q1 q2 q3 q4 q5 q6 q7 q8 q9 q10 q11 p : Prop} (h : q0 ∧ q1 ∧ q2 ∧ q3 ∧ q4 ∧ q5 ∧ q6 ∧ q7 ∧ q8 ∧ q9 ∧ q10 ∧ q11 ∧ b < a ∧ p) : a ≠ b := Nat.ne_of_gt h.2.2.2.2.2.2.2.2.2.2.2.2.1
theorem neL13 {q0 q1 q2 q3 q4 q5 q6 q7 q8 q9 q10 q11 q12 p : Prop} (h : q0 ∧ q1 ∧ q2 ∧ q3 ∧ q4 ∧ q5 ∧ q6 ∧ q7 ∧ q8 ∧ q9 ∧ q10 ∧ q11 ∧ q12 ∧ a < b ∧ p) : a ≠ b := Nat.ne_of_lt h.2.2.2.2.2.2.2.2.2.2.2.2.2.1
theorem neR13 {q0 q1 q2 q3 q4 q5 q6 q7 q8 q9 q10 q11 q12 p : Prop} (h : q0 ∧ q1 ∧ q2 ∧ q3 ∧ q4 ∧ q5 ∧ q6 ∧ q7 ∧ q8 ∧ q9 ∧ q10 ∧ q11 ∧ q12 ∧ b < a ∧ p) : a ≠ b := Nat.ne_of_gt h.2.2.2.2.2.2.2.2.2.2.2.2.2.1
end
section
variable {a b c : Nat}
theorem neTL0 {p : Prop} (g : c < b) (h : a < c ∧ p) : a ≠ b := Nat.ne_of_lt (Nat.lt_trans h.1 g)
theorem neTR0 {p : Prop} (g : c < a) (h : b < c ∧ p) : a ≠ b := Nat.ne_of_gt (Nat.lt_trans h.1 g)
theorem neTL1 {q0 p : Prop} (g : c < b) (h : q0 ∧ a < c ∧ p) : a ≠ b := Nat.ne_of_lt (Nat.lt_trans h.2.1 g)
theorem neTR1 {q0 p : Prop} (g : c < a) (h : q0 ∧ b < c ∧ p) : a ≠ b := Nat.ne_of_gt (Nat.lt_trans h.2.1 g)
theorem neTL2 {q0 q1 p : Prop} (g : c < b) (h : q0 ∧ q1 ∧ a < c ∧ p) : a ≠ b := Nat.ne_of_lt (Nat.lt_trans h.2.2.1 g)
theorem neTR2 {q0 q1 p : Prop} (g : c < a) (h : q0 ∧ q1 ∧ b < c ∧ p) : a ≠ b := Nat.ne_of_gt (Nat.lt_trans h.2.2.1 g)
theorem neTL3 {q0 q1 q2 p : Prop} (g : c < b) (h : q0 ∧ q1 ∧ q2 ∧ a < c ∧ p) : a ≠ b := Nat.ne_of_lt (Nat.lt_trans h.2.2.2.1 g)
theorem neTR3 {q0 q1 q2 p : Prop} (g : c < a) (h : q0 ∧ q1 ∧ q2 ∧ b < c ∧ p) : a ≠ b := Nat.ne_of_gt (Nat.lt_trans h.2.2.2.1 g)
theorem neTL4 {q0 q1 q2 q3 p : Prop} (g : c < b) (h : q0 ∧ q1 ∧ q2 ∧ q3 ∧ a < c ∧ p) : a ≠ b := Nat.ne_of_lt (Nat.lt_trans h.2.2.2.2.1 g)
theorem neTR4 {q0 q1 q2 q3 p : Prop} (g : c < a) (h : q0 ∧ q1 ∧ q2 ∧ q3 ∧ b < c ∧ p) : a ≠ b := Nat.ne_of_gt (Nat.lt_trans h.2.2.2.2.1 g)
theorem neTL5 {q0 q1 q2 q3 q4 p : Prop} (g : c < b) (h : q0 ∧ q1 ∧ q2 ∧ q3 ∧ q4 ∧ a < c ∧ p) : a ≠ b := Nat.ne_of_lt (Nat.lt_trans h.2.2.2.2.2.1 g)
theorem neTR5 {q0 q1 q2 q3 q4 p : Prop} (g : c < a) (h : q0 ∧ q1 ∧ q2 ∧ q3 ∧ q4 ∧ b < c ∧ p) : a ≠ b := Nat.ne_of_gt (Nat.lt_trans h.2.2.2.2.2.1 g)
theorem neTL6 {q0 q1 q2 q3 q4 q5 p : Prop} (g : c < b) (h : q0 ∧ q1 ∧ q2 ∧ q3 ∧ q4 ∧ q5 ∧ a < c ∧ p) : a ≠ b := Nat.ne_of_lt (Nat.lt_trans h.2.2.2.2.2.2.1 g)
theorem neTR6 {q0 q1 q2 q3 q4 q5 p : Prop} (g : c < a) (h : q0 ∧ q1 ∧ q2 ∧ q3 ∧ q4 ∧ q5 ∧ b < c ∧ p) : a ≠ b := Nat.ne_of_gt (Nat.lt_trans h.2.2.2.2.2.2.1 g)
theorem neTL7 {q0 q1 q2 q3 q4 q5 q6 p : Prop} (g : c < b) (h : q0 ∧ q1 ∧ q2 ∧ q3 ∧ q4 ∧ q5 ∧ q6 ∧ a < c ∧ p) : a ≠ b := Nat.ne_of_lt (Nat.lt_trans h.2.2.2.2.2.2.2.1 g)
theorem neTR7 {q0 q1 q2 q3 q4 q5 q6 p : Prop} (g : c < a) (h : q0 ∧ q1 ∧ q2 ∧ q3 ∧ q4 ∧ q5 ∧ q6 ∧ b < c ∧ p) : a ≠ b := Nat.ne_of_gt (Nat.lt_trans h.2.2.2.2.2.2.2.1 g)
theorem neTL8 {q0 q1 q2 q3 q4 q5 q6 q7 p : Prop} (g : c < b) (h : q0 ∧ q1 ∧ q2 ∧ q3 ∧ q4 ∧ q5 ∧ q6 ∧ q7 ∧ a < c ∧ p) : a ≠ b := Nat.ne_of_lt (Nat.lt_trans h.2.2.2.2.2.2.2.2.1 g)
theorem neTR8 {q0 q1 q2 q3 q4 q5 q6 q7 p : Prop} (g : c < a) (h : q0 ∧ q1 ∧ q2 ∧ q3 ∧ q4 ∧ q5 ∧ q6 ∧ q7 ∧ b < c ∧ p) : a ≠ b := Nat.ne_of_gt (Nat.lt_trans h.2.2.2.2.2.2.2.2.1 g)
theorem neTL9 {q0 q1 q2 q3 q4 q5 q6 q7 q8 p : Prop} (g : c < b) (h : q0 ∧ q1 ∧ q2 ∧ q3 ∧ q4 ∧ q5 ∧ q6 ∧ q7 ∧ q8 ∧ a < c ∧ p) : a ≠ b := Nat.ne_of_lt (Nat.lt_trans h.2.2.2.2.2.2.2.2.2.1 g)
theorem neTR9 {q0 q1 q2 q3 q4 q5 q6 q7 q8 p : Prop} (g : c < a) (h : q0 ∧ q1 ∧ q2 ∧ q3 ∧ q4 ∧ q5 ∧ q6 ∧ q7 ∧ q8 ∧ b < c ∧ p) : a ≠ b := Nat.ne_of_gt (Nat.lt_trans h.2.2.2.2.2.2.2.2.2.1 g)
end
theorem roomL {c d n a b : Nat} (h : d + n < c) (e : Nat.ble (a + b) n = true) : d + a + b < c :=
  Nat.lt_of_le_of_lt (by rw [Nat.add_assoc]; exact Nat.add_le_add_left (Nat.le_of_ble_eq_true e) d) h
theorem roomU {c u n a b : Nat} (h : u + 8 * n < c) (e : Nat.ble (a + 8 * b) (8 * n) = true) : u + a + 8 * b < c :=
  Nat.lt_of_le_of_lt (by rw [Nat.add_assoc]; exact Nat.add_le_add_left (Nat.le_of_ble_eq_true e) u) h
end Mine
end
/-! part Txt53 -/
section
open PySem PySem.W PyProof.Rows PySem.Builtin PySem.Builtin.Str
namespace Mine

/-- a text by the list of its signs -/
def T (l : List Nat) : PySem.Str := ⟨l.toArray⟩
theorem T_len (l : List Nat) : (T l).length = l.length := by simp [T, PySem.Str.length]
theorem T_cps (l : List Nat) : (T l).cps.toList = l := by simp [T]
theorem T_app (a b : List Nat) : T a ++ T b = T (a ++ b) := by
  apply PySem.Str.ext'
  simp [T, PySem.Str.cps_append]
theorem T_inj {a b : List Nat} (h : T a = T b) : a = b := by
  have := congrArg (fun s : PySem.Str => s.cps.toList) h
  simpa [T_cps] using this
theorem T_beq (a b : List Nat) : (T a == T b) = decide (a = b) := by
  by_cases h : a = b
  · subst h; simp
  · have : T a ≠ T b := fun e => h (T_inj e)
    simp [h, this]
theorem T_bne (a b : List Nat) : (T a != T b) = decide (a ≠ b) := by
  rw [bne, T_beq]
  by_cases h : a = b <;> simp [h]
theorem T_of (x : PySem.Str) : x = T x.cps.toList := by
  apply PySem.Str.ext'
  simp [T]
theorem T_nil : PySem.Str.ofString "" = T [] := by decide +kernel
theorem T_blank : PySem.Str.ofString " " = T [32] := by decide +kernel
theorem slice_text (x : PySem.Str) (l u : Option Int) : Txt.slice x l u = PySem.StrLaws.sliceText x l u := rfl
theorem T_take (l : List Nat) {j : Int} (h0 : 0 ≤ j) (h1 : j ≤ l.length) : Txt.slice (T l) none (some j) = T (l.take j.toNat) := by
  rw [slice_text, PySem.StrLaws.sliceText_to (by rw [T_cps]; exact ⟨h0, h1⟩), T_cps]
  simp [T]
theorem T_drop (l : List Nat) {i : Int} (h0 : 0 ≤ i) (h1 : i ≤ l.length) : Txt.slice (T l) (some i) none = T (l.drop i.toNat) := by
  rw [slice_text, PySem.StrLaws.sliceText_from (by rw [T_cps]; exact ⟨h0, h1⟩), T_cps]
  apply PySem.Str.ext'
  simp only [T]
  congr 1
  apply List.take_of_length_le
  rw [List.length_drop]
  obtain ⟨n, rfl⟩ := Int.eq_ofNat_of_zero_le h0
  exact Nat.le_of_eq (Int.toNat_sub _ _).symm
theorem T_cut (l : List Nat) {i j : Int} (h0 : 0 ≤ i) (h1 : i ≤ j) (h2 : j ≤ l.length) : Txt.slice (T l) (some i) (some j) = T ((l.drop i.toNat).take (j - i).toNat) := by
  rw [slice_text, PySem.StrLaws.sliceText_plain (by rw [T_cps]; exact ⟨h0, h1, h2⟩), T_cps]
  rfl
theorem T_mul (n : Int) : Txt.mul (T [32]) n = T (List.replicate n.toNat 32) := by
  have h := mul_one_list 32 n
  rw [T_of (Txt.mul (T [32]) n)]
  exact congrArg T h
theorem line_of {n : Nat} (h : n ≤ 1000000) : n ≤ sizeLine := by rw [sizeLine_eq]; (first | lia | omega)

section
variable {prog : Program} {w : World} {A : Around} {E : Value → Shared → Prop} {s : Shared} {value slice : PySem.Expr} {a b : List Nat} {t u : Tok} {h₀ : Heap} {L : Addr} {m : PySem.Str → Option Value} {news : List (Addr × Obj)} {Q : Value → Shared → Prop}

theorem len_T (hz : a.length ≤ 1000000) (h : Q (.int a.length (s.toks + 1)) { s with toks := s.toks + 1 + 1 }) : wpAny (model prog w) A (call (.builtin "len") [.str (T a) t]) Q E s := by
  refine P.len_str ?_ ?_
  · rw [T_len]; (first | lia | omega)
  · rw [T_len]; exact h
theorem add_T (hz : a.length + b.length ≤ 1000000) (h : ∀ t' k, Q (.str (T (a ++ b)) t') { s with toks := k }) : wpAny (model prog w) A (binaryOp .Add (.str (T a) t) (.str (T b) u)) Q E s := by
  refine SBL.add (fun t' k _ => ?_) ?_
  · rw [T_app]; exact h t' k
  · rw [T_len, T_len]; exact line_of hz
theorem eq_T (h : Q (.bool (decide (a = b))) s) : wpAny (model prog w) A (compareOp .Eq (.str (T a) t) (.str (T b) u)) Q E s := by
  refine PyProof.Rows.eq_str ?_
  rw [T_beq]; exact h
theorem ne_T (h : Q (.bool (decide (a ≠ b))) s) : wpAny (model prog w) A (compareOp .NotEq (.str (T a) t) (.str (T b) u)) Q E s := by
  refine PyProof.Rows.ne_str ?_
  rw [T_bne]; exact h
theorem mul_T {n : Int} (h0 : 0 ≤ n) (hn : n ≤ 1000000) (h : ∀ t' k, Q (.str (T (List.replicate n.toNat 32)) t') { s with toks := k }) : wpAny (model prog w) A (binaryOp .Mult (.str (T [32]) t) (.int n u)) Q E s := by
  refine SB.mul ⟨?_, ?_, ?_⟩ ?_
  · rw [Bool.or_eq_false_iff]; exact ⟨decide_eq_false (by (first | lia | omega)), decide_eq_false (by (first | lia | omega))⟩
  · intro h1 h2
    have : (1 : Int) ≤ (2 ^ 63 - 1) / n := by
      rw [Int.le_ediv_iff_mul_le (by (first | lia | omega))]; (first | lia | omega)
    rw [T_len]
    simp only [List.length_cons, List.length_nil]
    (first | lia | omega)
  · intro h1 h2
    unfold tooLong
    rw [T_len]
    refine decide_eq_false ?_
    rw [sizeLine_eq]
    simp only [List.length_cons, List.length_nil]
    (first | lia | omega)
  · intro t' k
    rw [T_mul]; exact h t' k
theorem take_T {j : Int} {uj : Tok} (h0 : 0 ≤ j) (h1 : j ≤ a.length) (hz : a.length ≤ 1000000) (hF : Fr h₀ L s.heap m) (hN : News h₀ L s.heap news) (h : ∀ h' t' k, Fr h₀ L h' m → News h₀ L h' news → Q (.str (T (a.take j.toNat)) t') { s with heap := h', toks := k })
    (hs : subscripted slice false (.str (T a) t) (.ref s.heap.objs.size) = operate [.ref s.heap.objs.size, .str (T a) t] (getItem (.str (T a) t) (.ref s.heap.objs.size)) := by with_unfolding_all rfl)
    (ht : ∀ r, letTemporaryGo value (.str (T a) t) r = pure () := by intro _; with_unfolding_all rfl) :
    wpAny (model prog w) A (subscriptTail value slice (.str (T a) t) (.ref s.heap.objs.size)) Q E { s with heap := s.heap.push { cls := .type "slice", data := .fields #[.none, .int j uj, .none] } } :=
  slice_strN_ns_len hF hN (fun h' t' k a b _ => by rw [T_take _ h0 h1]; exact h h' t' k a b) hs ht (by rw [T_len]; exact line_of hz)
theorem drop_T {j : Int} {uj : Tok} (h0 : 0 ≤ j) (h1 : j ≤ a.length) (hz : a.length ≤ 1000000) (hF : Fr h₀ L s.heap m) (hN : News h₀ L s.heap news) (h : ∀ h' t' k, Fr h₀ L h' m → News h₀ L h' news → Q (.str (T (a.drop j.toNat)) t') { s with heap := h', toks := k })
    (hs : subscripted slice false (.str (T a) t) (.ref s.heap.objs.size) = operate [.ref s.heap.objs.size, .str (T a) t] (getItem (.str (T a) t) (.ref s.heap.objs.size)) := by with_unfolding_all rfl)
    (ht : ∀ r, letTemporaryGo value (.str (T a) t) r = pure () := by intro _; with_unfolding_all rfl) :
    wpAny (model prog w) A (subscriptTail value slice (.str (T a) t) (.ref s.heap.objs.size)) Q E { s with heap := s.heap.push { cls := .type "slice", data := .fields #[.int j uj, .none, .none] } } :=
  slice_strN_sn_len hF hN (fun h' t' k a b _ => by rw [T_drop _ h0 h1]; exact h h' t' k a b) hs ht (by rw [T_len]; exact line_of hz)
theorem cut_T {i j : Int} {ui uj : Tok} (h0 : 0 ≤ i) (h1 : i ≤ j) (h2 : j ≤ a.length) (hz : a.length ≤ 1000000) (hF : Fr h₀ L s.heap m) (hN : News h₀ L s.heap news) (h : ∀ h' t' k, Fr h₀ L h' m → News h₀ L h' news → Q (.str (T ((a.drop i.toNat).take (j - i).toNat)) t') { s with heap := h', toks := k })
    (hs : subscripted slice false (.str (T a) t) (.ref s.heap.objs.size) = operate [.ref s.heap.objs.size, .str (T a) t] (getItem (.str (T a) t) (.ref s.heap.objs.size)) := by with_unfolding_all rfl)
    (ht : ∀ r, letTemporaryGo value (.str (T a) t) r = pure () := by intro _; with_unfolding_all rfl) :
    wpAny (model prog w) A (subscriptTail value slice (.str (T a) t) (.ref s.heap.objs.size)) Q E { s with heap := s.heap.push { cls := .type "slice", data := .fields #[.int i ui, .int j uj, .none] } } :=
  slice_strN_ss_len hF hN (fun h' t' k a b _ => by rw [T_cut _ h0 h1 h2]; exact h h' t' k a b) hs ht (by rw [T_len]; exact line_of hz)

theorem len_X {x : PySem.Str} (hx : x = T a) (hz : a.length ≤ 1000000) (h : Q (.int a.length (s.toks + 1)) { s with toks := s.toks + 1 + 1 }) : wpAny (model prog w) A (call (.builtin "len") [.str x t]) Q E s := by subst hx; exact len_T hz h
theorem add_X {x y : PySem.Str} (hx : x = T a) (hy : y = T b) (hz : a.length + b.length ≤ 1000000) (h : ∀ t' k, Q (.str (T (a ++ b)) t') { s with toks := k }) : wpAny (model prog w) A (binaryOp .Add (.str x t) (.str y u)) Q E s := by subst hx; subst hy; exact add_T hz h
theorem eq_X {x y : PySem.Str} (hx : x = T a) (hy : y = T b) (h : Q (.bool (decide (a = b))) s) : wpAny (model prog w) A (compareOp .Eq (.str x t) (.str y u)) Q E s := by subst hx; subst hy; exact eq_T h
theorem ne_X {x y : PySem.Str} (hx : x = T a) (hy : y = T b) (h : Q (.bool (decide (a ≠ b))) s) : wpAny (model prog w) A (compareOp .NotEq (.str x t) (.str y u)) Q E s := by subst hx; subst hy; exact ne_T h
theorem mul_X {x : PySem.Str} {n : Int} (hx : x = T [32]) (h0 : 0 ≤ n) (hn : n ≤ 1000000) (h : ∀ t' k, Q (.str (T (List.replicate n.toNat 32)) t') { s with toks := k }) : wpAny (model prog w) A (binaryOp .Mult (.str x t) (.int n u)) Q E s := by subst hx; exact mul_T h0 hn h
theorem add_L {l b : Addr} {xs ys : List Value} {n k : Nat} (F : Fr h₀ L s.heap m) (N : News h₀ L s.heap news) (h1 : (l, W.listOf xs.toArray n) ∈ news) (h2 : (b, W.listOf ys.toArray k) ∈ news)
    (h : ∀ c h', Fr h₀ L h' m → News h₀ L h' ((c, W.listOf (xs ++ ys).toArray 0) :: news) → (∀ p ∈ news, p.1 < c) → Q (.ref c) { s with heap := h' }) (hsz : xs.length + ys.length ≤ 1000000) :
    wpAny (model prog w) A (binaryOp .Add (.ref l) (.ref b)) Q E s :=
  add_arrays F N (News.isList N h1) (News.isList N h2) (fun h' F' N' => h _ h' F' N' fun p hp => Heap.lt_size (N p hp).1) (by simp only [List.size_toArray]; exact line_of hsz)
theorem cut_X {x : PySem.Str} {i j : Int} {ui uj : Tok} (hx : x = T a) (h0 : 0 ≤ i) (h1 : i ≤ j) (h2 : j ≤ a.length) (hz : a.length ≤ 1000000) (hF : Fr h₀ L s.heap m) (hN : News h₀ L s.heap news) (h : ∀ h' t' k, Fr h₀ L h' m → News h₀ L h' news → Q (.str (T ((a.drop i.toNat).take (j - i).toNat)) t') { s with heap := h', toks := k })
    (hs : subscripted slice false (.str (T a) t) (.ref s.heap.objs.size) = operate [.ref s.heap.objs.size, .str (T a) t] (getItem (.str (T a) t) (.ref s.heap.objs.size)) := by with_unfolding_all rfl)
    (ht : ∀ r, letTemporaryGo value (.str (T a) t) r = pure () := by intro _; with_unfolding_all rfl) :
    wpAny (model prog w) A (subscriptTail value slice (.str x t) (.ref s.heap.objs.size)) Q E { s with heap := s.heap.push { cls := .type "slice", data := .fields #[.int i ui, .int j uj, .none] } } := by
  subst hx
  exact cut_T h0 h1 h2 hz hF hN h hs ht
theorem getD_map_T (rows : List (List Nat)) (k : Nat) (h : k < rows.length) : (rows.map T).getD k PySem.Str.empty = T (rows.getD k []) := by
  rw [List.getD_eq_getElem?_getD, List.getD_eq_getElem?_getD, List.getElem?_map, List.getElem?_eq_getElem h]
  rfl
theorem item_T {l : Addr} {vs : List Value} {rows : List (List Nat)} {n : Nat} {k : Int} (N : News h₀ L s.heap news) (hm : (l, W.listOf vs.toArray n) ∈ news) (hv : StrsAre vs (rows.map T)) (h0 : 0 ≤ k) (hk : k < rows.length) (hz : rows.length ≤ 1000000)
    (h : ∀ t', Q (.str (T (rows.getD k.toNat [])) t') s)
    (hs : subscripted slice false (.ref l) (.int k u) = operate [.ref l, .int k u] (getItem (.ref l) (.int k u)) := by with_unfolding_all rfl) :
    wpAny (model prog w) A (subscriptTail value slice (.ref l) (.int k u)) Q E s := by
  have hlt : k.toNat < rows.length := by (first | lia | omega)
  obtain ⟨t, ht⟩ := StrsAre.get hv k.toNat (T (rows.getD k.toNat [])) (by
    rw [List.getElem?_map, List.getD_eq_getElem?_getD, List.getElem?_eq_getElem hlt]; rfl)
  have hl := News.isList N hm
  exact tail_any hl.typeIs slot_list_getitem.lookup (wpAny_getItem_list hl h0 (by (first | lia | omega)) (by simpa using ht) (h t)) hs
theorem len_L {l : Addr} {vs : List Value} {n : Nat} (N : News h₀ L s.heap news) (hm : (l, W.listOf vs.toArray n) ∈ news) (hz : vs.length ≤ 1000000) (h : Q (.int vs.length (s.toks + 1)) { s with toks := s.toks + 1 + 1 }) :
    wpAny (model prog w) A (call (.builtin "len") [.ref l]) Q E s := by
  have e : vs.toArray.size = vs.length := by simp
  refine len_list (News.isList N hm) (by rw [e]; (first | lia | omega)) ?_
  rw [e]
  exact h
end
end Mine
end
/-! part Pure53 -/
section
/-! the pages, in plain lists of signs -/
namespace Mine
abbrev Txt0 := List Nat
abbrev Pg := List Txt0 × Txt0

def endRow (p : Pg) : Pg := (p.1 ++ [p.2], [])

/-- what the while of write_text cuts off, and what it leaves -/
def chop (w : Nat) (t : Txt0) : List Txt0 × Txt0 :=
  if h : 0 < w ∧ w < t.length then
    let r := chop w (t.drop w)
    (t.take w :: r.1, r.2)
  else ([], t)
termination_by t.length
decreasing_by simp only [List.length_drop]; (first | lia | omega)

theorem chop_stop {w : Nat} {t : Txt0} (h : ¬ (0 < w ∧ w < t.length)) : chop w t = ([], t) := by
  rw [chop, dif_neg h]
theorem chop_go {w : Nat} {t : Txt0} (h : 0 < w ∧ w < t.length) : chop w t = (t.take w :: (chop w (t.drop w)).1, (chop w (t.drop w)).2) := by
  rw [chop, dif_pos h]

def fits (w : Nat) (p : Pg) (t : Txt0) : Bool := decide (0 < w ∧ 0 < p.2.length ∧ w < p.2.length + t.length)
def broken (w : Nat) (p : Pg) (t : Txt0) : Pg := if 0 < w ∧ 0 < p.2.length ∧ w < p.2.length + t.length then endRow p else p
def writeText (w : Nat) (p : Pg) (t : Txt0) : Pg :=
  let q := broken w p t
  (q.1 ++ (chop w t).1, q.2 ++ (chop w t).2)

/-- the texts written out, one behind another -/
def signs0 (p : Pg) : Txt0 := p.1.flatten ++ p.2

theorem chop_signs (w : Nat) (t : Txt0) : (chop w t).1.flatten ++ (chop w t).2 = t := by
  induction t using chop.induct w with
  | case1 t h ih => rw [chop_go h]; simp only [List.flatten_cons, List.append_assoc]; rw [ih, List.take_append_drop]
  | case2 t h => rw [chop_stop h]; rfl
theorem chop_left (w : Nat) (t : Txt0) : w = 0 ∨ (chop w t).2.length ≤ w := by
  induction t using chop.induct w with
  | case1 t h ih => rw [chop_go h]; exact ih
  | case2 t h =>
    rw [chop_stop h]
    by_cases hw : w = 0
    · exact .inl hw
    · right
      show t.length ≤ w
      (first | lia | omega)
theorem chop_each (w : Nat) (t : Txt0) : ∀ c ∈ (chop w t).1, c.length = w := by
  induction t using chop.induct w with
  | case1 t h ih =>
    rw [chop_go h]
    intro c hc
    rcases List.mem_cons.mp hc with rfl | hc
    · rw [List.length_take]; (first | lia | omega)
    · exact ih c hc
  | case2 t h => rw [chop_stop h]; intro c hc; nomatch hc
theorem chop_count (w : Nat) (t : Txt0) : (chop w t).1.length ≤ t.length := by
  induction t using chop.induct w with
  | case1 t h ih => rw [chop_go h]; simp only [List.length_cons, List.length_drop] at ih ⊢; (first | lia | omega)
  | case2 t h => rw [chop_stop h]; exact Nat.zero_le _
theorem chop_rest (w : Nat) (t : Txt0) : (chop w t).2.length ≤ t.length := by
  induction t using chop.induct w with
  | case1 t h ih => rw [chop_go h]; simp only [List.length_drop] at ih ⊢; (first | lia | omega)
  | case2 t h => rw [chop_stop h]; exact Nat.le_refl _
theorem writeText_rows (w : Nat) (p : Pg) (t : Txt0) : (writeText w p t).1.length ≤ p.1.length + 1 + t.length := by
  have := chop_count w t
  unfold writeText broken endRow
  simp only
  split <;> simp only [List.length_append, List.length_cons, List.length_nil] <;> (first | lia | omega)
theorem writeText_row (w : Nat) (p : Pg) (t : Txt0) : (writeText w p t).2.length ≤ p.2.length + t.length := by
  have := chop_rest w t
  unfold writeText broken endRow
  simp only
  split <;> simp only [List.length_append, List.length_nil] <;> (first | lia | omega)

def within (many width : Nat) : Nat := if 0 < width then many % width else many
def writeZone (zone width : Nat) (p : Pg) : Pg :=
  if 0 < width ∧ width < (p.2.length / zone + 1) * zone + zone then endRow p else (p.1, p.2 ++ List.replicate ((p.2.length / zone + 1) * zone - p.2.length) 32)
def writeBlanks (many width : Nat) (p : Pg) : Pg := writeText width p (List.replicate (within many width) 32)
/-- column counts from nought -/
def writeTab (column width : Nat) (p : Pg) : Pg :=
  let q := if within column width < p.2.length then endRow p else p
  (q.1, q.2 ++ List.replicate (within column width - q.2.length) 32)
inductive Part where
  | text (t : Txt0)
  | zone
  | tab (column : Nat)
  | spc (many : Nat)
  | glue
def writePart (zone width : Nat) (p : Pg) : Part → Pg
  | .text t => writeText width p t
  | .zone => writeZone zone width p
  | .tab c => writeTab c width p
  | .spc n => writeBlanks n width p
  | .glue => p
def Part.isText : Part → Bool
  | .text _ => true
  | _ => false
def writeParts0 (zone width : Nat) (p : Pg) (ps : List Part) : Pg := ps.foldl (writePart zone width) p
/-- is_ended behind the loop -/
def endsIn (ps : List Part) : Bool := ps.foldl (fun _ q => q.isText) true
def writeParts (zone width : Nat) (p : Pg) (ps : List Part) : Pg :=
  if endsIn ps = true then endRow (writeParts0 zone width p ps) else writeParts0 zone width p ps
theorem within_le (many width : Nat) : within many width ≤ many := by
  unfold within
  split
  · exact Nat.mod_le _ _
  · exact Nat.le_refl _

def Part.ok : Part → Prop
  | .text t => t.length ≤ 300
  | .tab c => c ≤ 200
  | .spc n => n ≤ 200
  | _ => True
theorem writePart_grow {zone width : Nat} (hz : zone ≤ 20) (hz1 : 1 ≤ zone) (p : Pg) {q : Part} (h : q.ok) :
    (writePart zone width p q).1.length ≤ p.1.length + 302 ∧ (writePart zone width p q).2.length ≤ p.2.length + 302 := by
  cases q with
  | text t =>
    have := writeText_rows width p t
    have := writeText_row width p t
    have ht : t.length ≤ 300 := h
    show (writeText width p t).1.length ≤ _ ∧ (writeText width p t).2.length ≤ _
    (first | lia | omega)
  | zone =>
    show (writeZone zone width p).1.length ≤ _ ∧ (writeZone zone width p).2.length ≤ _
    have h1 := Nat.div_add_mod p.2.length zone
    have h3 : (p.2.length / zone + 1) * zone = zone * (p.2.length / zone) + zone := by rw [Nat.add_mul, Nat.one_mul, Nat.mul_comm]
    unfold writeZone endRow
    split
    · simp only [List.length_append, List.length_cons, List.length_nil]; (first | lia | omega)
    · simp only [List.length_append, List.length_replicate]; (first | lia | omega)
  | tab c =>
    have hc : c ≤ 200 := h
    have := within_le c width
    show (writeTab c width p).1.length ≤ _ ∧ (writeTab c width p).2.length ≤ _
    unfold writeTab endRow
    simp only
    split
    · simp only [List.length_append, List.length_replicate, List.length_cons, List.length_nil]; (first | lia | omega)
    · simp only [List.length_append, List.length_replicate]; (first | lia | omega)
  | spc n =>
    have hc : n ≤ 200 := h
    have := within_le n width
    show (writeBlanks n width p).1.length ≤ _ ∧ (writeBlanks n width p).2.length ≤ _
    unfold writeBlanks
    have h1 := writeText_rows width p (List.replicate (within n width) 32)
    have h2 := writeText_row width p (List.replicate (within n width) 32)
    simp only [List.length_replicate] at h1 h2
    (first | lia | omega)
  | glue => exact ⟨Nat.le_add_right _ _, Nat.le_add_right _ _⟩
theorem writeParts0_snoc (zone width : Nat) (p : Pg) (ps : List Part) (q : Part) : writeParts0 zone width p (ps ++ [q]) = writePart zone width (writeParts0 zone width p ps) q := by
  unfold writeParts0; rw [List.foldl_append]; rfl
theorem endsIn_snoc (ps : List Part) (q : Part) : endsIn (ps ++ [q]) = q.isText := by
  unfold endsIn; rw [List.foldl_append]; rfl
theorem writeParts0_grow {zone width : Nat} (hz : zone ≤ 20) (hz1 : 1 ≤ zone) (p : Pg) (ps : List Part) (h : ∀ q ∈ ps, q.ok) :
    (writeParts0 zone width p ps).1.length ≤ p.1.length + 302 * ps.length ∧ (writeParts0 zone width p ps).2.length ≤ p.2.length + 302 * ps.length := by
  induction ps generalizing p with
  | nil => exact ⟨Nat.le_refl _, Nat.le_refl _⟩
  | cons q ps ih =>
    have h1 := writePart_grow (width := width) hz hz1 p (h q (List.mem_cons_self ..))
    have h2 := ih (writePart zone width p q) fun r hr => h r (List.mem_cons_of_mem _ hr)
    have e : writeParts0 zone width p (q :: ps) = writeParts0 zone width (writePart zone width p q) ps := rfl
    rw [e, List.length_cons]
    (first | lia | omega)

def allRows (p : Pg) : List Txt0 := p.1 ++ if p.2 = [] then [] else [p.2]

def written (w : Nat) (p : Pg) (t : Txt0) (ends : Bool) : Pg := if ends = true then endRow (writeText w p t) else writeText w p t

theorem wp_text (z w : Nat) (p : Pg) (t : Txt0) : writeParts z w p [.text t] = ((writeText w p t).1 ++ [(writeText w p t).2], []) := rfl
theorem wp_glue (z w : Nat) (p : Pg) (t : Txt0) : writeParts z w p [.text t, .glue] = writeText w p t := rfl
theorem written_true (w : Nat) (p : Pg) (t : Txt0) : written w p t true = ((writeText w p t).1 ++ [(writeText w p t).2], []) := rfl
theorem written_false (w : Nat) (p : Pg) (t : Txt0) : written w p t false = writeText w p t := rfl
theorem fit_text {w : Nat} {p : Pg} {t : Txt0} (h : w = 0 ∨ t.length ≤ w) : (writeText w p t).2 = (broken w p t).2 ++ t := by
  unfold writeText
  rw [chop_stop (by (first | lia | omega))]
theorem fit_len (w : Nat) (p : Pg) (t : Txt0) (h : w = 0 ∨ t.length ≤ w) : t.length ≤ (writeText w p t).2.length := by
  rw [fit_text h, List.length_append]; (first | lia | omega)
theorem fit_end {w : Nat} {p : Pg} {t : Txt0} (h : w = 0 ∨ t.length ≤ w) : (writeText w p t).2.drop ((writeText w p t).2.length - t.length) = t := by
  rw [fit_text h, List.length_append, Nat.add_sub_cancel, List.drop_left]

theorem tail_eq {w : Nat} {p : Pg} {t : Txt0} (h : w = 0 ∨ t.length ≤ w) : decide (List.drop (((writeText w p t).2.length : Int) - (t.length : Int)).toNat (writeText w p t).2 = t) = true := by
  have e : (((writeText w p t).2.length : Int) - (t.length : Int)).toNat = (writeText w p t).2.length - t.length := Int.toNat_sub _ _
  rw [e, fit_end h]
  simp
end Mine
end
/-! part Loop53 -/
section
open PySem PySem.W PyProof.Rows
namespace Mine
section
variable {prog : Program} {w : World} {A : Around} {E : Value → Shared → Prop} {s : Shared} {env : Env} {h₀ : Heap} {x : Str} {target : PySem.Expr} {body : List Stmt} {Q : Flow → Shared → Prop}

/-- of what a loop over a made list owns beside the ledger: the iterator alone is new to it -/
theorem own_cut {h h' : Heap} {I l : Addr} {ol : Obj} {L : Addr} {own nx news' : Ledger}
    (hown : ∀ p ∈ own, p.1 ∈ [I, l]) (hget : ∀ p ∈ own, h.get? p.1 = some p.2) (hl : h.get? l = some ol) (hnx : (l, ol) ∈ nx)
    (N' : News h₀ L h' news') (hn : ∀ p ∈ nx, p ∈ news') (ho : ∀ p ∈ own.filter (fun p => decide (p.1 = I)), p ∈ news') : News h₀ L h' (own ++ nx) := by
  intro p hp
  refine N' p ?_
  rcases List.mem_append.mp hp with h1 | h1
  · by_cases hI : p.1 = I
    · exact ho p (List.mem_filter.mpr ⟨h1, by simpa using hI⟩)
    · have hpl : p.1 = l := by
        rcases List.mem_cons.mp (hown p h1) with h2 | h2
        · exact absurd h2 hI
        · exact List.mem_singleton.mp h2
      have e := hget p h1
      rw [hpl, hl] at e
      have : p = (l, ol) := Prod.ext hpl (Option.some.inj e).symm
      rw [this]
      exact hn _ hnx
  · exact hn p h1

theorem own_off {news : Ledger} {h : Heap} {L : Addr} {own : Ledger} (N : News h₀ L h news) : OwnOff (own.filter fun p => decide (p.1 = h.objs.size)) (news.map (·.1)) := by
  intro p hp b hb e
  obtain ⟨q, hq, rfl⟩ := List.mem_map.mp hb
  have h1 : p.1 = h.objs.size := by simpa using (List.mem_filter.mp hp).2
  exact absurd (Heap.lt_size (N q hq).1) (by rw [← e, h1]; exact Nat.lt_irrefl _)

theorem new_off {news nx : Ledger} {h : Heap} {L : Addr} (N : News h₀ L h news) (ha : nx.map (·.1) = news.map (·.1)) : ∀ p ∈ nx, p.1 ∉ [h.objs.size] := by
  intro p hp hI
  have h1 : p.1 ∈ nx.map (·.1) := List.mem_map.mpr ⟨p, hp, rfl⟩
  rw [ha] at h1
  obtain ⟨q, hq, e⟩ := List.mem_map.mp h1
  exact absurd (Heap.lt_size (N q hq).1) (by rw [e, List.mem_singleton.mp hI]; exact Nat.lt_irrefl _)

theorem LoopV_i {it : Value} {s₂ : Shared} (I : Addr) (fp wr : List Addr) (n : Nat) {P : Nat → Value → Prop} {St : Nat → Heap → Prop} (m : Str → Option Value) (news : Ledger) (J : Nat → (Str → Option Value) → Ledger → Prop)
    (h1 : it = .ref I) (h2 : Walks prog w A I fp wr n P St) (h3 : env.locals ∉ fp) (h4 : ∀ b ∈ wr, h₀.get? b = none) (h5 : ∀ p ∈ news, p.1 ∉ wr) (h6 : St 0 s₂.heap) (h7 : Fr h₀ env.locals s₂.heap m) (h8 : News h₀ env.locals s₂.heap news) (h9 : J 0 m news)
    (h10 : ∀ i v m₁ news₁ s₁ own, (∃ h tk, s₁ = { s₂ with heap := h, toks := tk }) → i < n → P i v → J i m₁ news₁ → (∀ p ∈ news₁, p.1 ∉ wr) → (∀ p ∈ own, p.1 ∈ fp) → (∀ p ∈ own, s₁.heap.get? p.1 = some p.2) → (∀ b ∈ fp, h₀.get? b = none → ∀ o, s₁.heap.get? b = some o → (b, o) ∈ own) → St (i + 1) s₁.heap →
      Fr h₀ env.locals s₁.heap (fun y => if y = x then some v else m₁ y) → News h₀ env.locals s₁.heap (own ++ news₁) →
      wpAny (model prog w) A (execs body env) (LoopStepV h₀ env.locals wr own (J (i + 1)) s₁ (fun v s' => Q (.ret v) s') fun s' => Q .next s') E s₁)
    (h11 : ∀ h' tk m' news', Fr h₀ env.locals h' m' → News h₀ env.locals h' news' → (∀ p ∈ news', p.1 ∉ wr) → J n m' news' → Q .next { s₂ with heap := h', toks := tk }) :
    LoopAtV prog w A h₀ env x body Q E it s₂ := ⟨I, fp, wr, n, P, St, m, news, J, h1, h2, h3, h4, h5, h6, h7, h8, h9, h10, h11⟩
theorem LoopT_i {it : Value} {s₂ : Shared} (I : Addr) (fp wr : List Addr) (n : Nat) {P : Nat → Value → Prop} {St : Nat → Heap → Prop} (m : Str → Option Value) (news : Ledger) (J : Nat → (Str → Option Value) → Ledger → Prop)
    (h1 : it = .ref I) (h2 : Walks prog w A I fp wr n P St) (h3 : env.locals ∉ fp) (h4 : ∀ b ∈ wr, h₀.get? b = none) (h5 : ∀ p ∈ news, p.1 ∉ wr) (h6 : St 0 s₂.heap) (h7 : Fr h₀ env.locals s₂.heap m) (h8 : News h₀ env.locals s₂.heap news)
    (hgo : ∀ i (s' : Shared) v (Q' : Unit → Shared → Prop), St i s'.heap → Q' () s' → wpAny (model prog w) A (letOwnedTupleGo target (.ref I) v) Q' E s') (h9 : J 0 m news)
    (h10 : ∀ i v m₁ news₁ s₁ own, i < n → P i v → J i m₁ news₁ → (∀ p ∈ news₁, p.1 ∉ wr) → (∀ p ∈ own, p.1 ∈ fp) → (∀ p ∈ own, s₁.heap.get? p.1 = some p.2) → (∀ b ∈ fp, h₀.get? b = none → ∀ o, s₁.heap.get? b = some o → (b, o) ∈ own) → St (i + 1) s₁.heap →
      Fr h₀ env.locals s₁.heap m₁ → News h₀ env.locals s₁.heap (own ++ news₁) →
      wpAny (model prog w) A (assign target env v) (fun _ s₃ => wpAny (model prog w) A (execs body env) (LoopStepU h₀ env.locals wr own (J (i + 1)) s₁) E s₃) E s₁)
    (h11 : ∀ h' tk m' news', Fr h₀ env.locals h' m' → News h₀ env.locals h' news' → (∀ p ∈ news', p.1 ∉ wr) → J n m' news' → Q .next { s₂ with heap := h', toks := tk }) :
    LoopAtT prog w A h₀ env target body Q E it s₂ := ⟨I, fp, wr, n, P, St, m, news, J, h1, h2, h3, h4, h5, h6, h7, h8, hgo, h9, h10, h11⟩
/-- a for over a list of the ledger, whatever it holds -/
theorem iter_val {l : Addr} {vs : List Value} {nn : Nat} {m₀ : Str → Option Value} {news : Ledger} (J : Nat → (Str → Option Value) → Ledger → Prop)
    (hh : A.handled = none) (hl : (l, W.listOf vs.toArray nn) ∈ news) (F : Fr h₀ env.locals s.heap m₀) (N : News h₀ env.locals s.heap news) (hj : J 0 m₀ news)
    (turn : ∀ i v m₁ news₁ h tk own, vs[i]? = some v → news₁.map (·.1) = news.map (·.1) → OwnOff own (news.map (·.1)) → (l, W.listOf vs.toArray nn) ∈ news₁ → J i m₁ news₁ → Fr h₀ env.locals h (fun y => if y = x then some v else m₁ y) → News h₀ env.locals h (news₁ ++ own) →
      wpAny (model prog w) A (execs body env) (InvPostN h₀ env.locals (fun m' nx => (l, W.listOf vs.toArray nn) ∈ nx ∧ J (i + 1) m' nx) own (news.map (·.1)) { s with heap := h, toks := tk } Q) E { s with heap := h, toks := tk })
    (done : ∀ m₁ news₁ h tk, news₁.map (·.1) = news.map (·.1) → (l, W.listOf vs.toArray nn) ∈ news₁ → J vs.length m₁ news₁ → Fr h₀ env.locals h m₁ → News h₀ env.locals h news₁ → Q .next { s with heap := h, toks := tk }) :
    wpAny (model prog w) A (pyIter (.ref l)) (fun it s₂ => LoopAtV prog w A h₀ env x body Q E it s₂) E s := by
  have hol : s.heap.get? l = some (W.listOf vs.toArray nn) := (N _ hl).1
  have hls : s.heap.IsList l vs.toArray := ⟨_, hol, rfl, nn, rfl⟩
  have hne : l ≠ s.heap.objs.size := Nat.ne_of_lt (Heap.lt_size hol)
  refine wpAny_pyIter_list hls ?_
  have WL := Walks.list (prog := prog) (w := w) hh s.heap.objs.size l hne vs.toArray
  have hlen : vs.toArray.size = vs.length := by simp
  rw [hlen] at WL
  refine LoopV_i _ _ _ vs.length m₀ news (fun i m nx => nx.map (·.1) = news.map (·.1) ∧ (l, W.listOf vs.toArray nn) ∈ nx ∧ J i m nx) rfl WL ?_ ?_ (new_off N rfl)
    ⟨⟨_, Heap.get?_push_size _ rfl, rfl, rfl⟩, hls.at fun o e => Heap.get?_push_of_some _ e⟩ (F.push _) (fun p hp => ⟨Heap.get?_push_of_some _ (N p hp).1, (N p hp).2⟩) ⟨rfl, hl, hj⟩ ?_ ?_
  · intro hm
    rcases List.mem_cons.mp hm with e | hm
    · exact absurd F.ns.lt (e ▸ Nat.lt_irrefl _)
    · exact (N _ hl).2.1 ((List.mem_singleton.mp hm).symm)
  · intro b hb
    rw [List.mem_singleton.mp hb]
    exact next_is_new F
  · rintro i v m₁ news₁ s₁ own ⟨hh', tk', rfl⟩ _ hP ⟨hadr, hl₁, hJ⟩ _ hown hget _ _ F₁ N₁
    have hP' : vs[i]? = some v := by simpa using hP
    have hlo : hh'.get? l = some (W.listOf vs.toArray nn) := (N₁ _ (List.mem_append.mpr (.inr hl₁))).1
    have N₂ : News h₀ env.locals hh' (news₁ ++ own.filter fun p => decide (p.1 = s.heap.objs.size)) := fun p hp => N₁ p ((List.mem_append.mp hp).elim (fun h => List.mem_append.mpr (.inr h)) fun h => List.mem_append.mpr (.inl ((List.mem_filter.mp h).1)))
    refine wpAny_mono (turn i v m₁ news₁ hh' tk' _ hP' hadr (own_off N) hl₁ hJ F₁ N₂) (fun f s₂ p => ?_) fun _ _ e => e
    have fin : InvEndN h₀ env.locals (fun m' nx => (l, W.listOf vs.toArray nn) ∈ nx ∧ J (i + 1) m' nx) (own.filter fun p => decide (p.1 = s.heap.objs.size)) (news.map (·.1)) { s with heap := hh', toks := tk' } s₂ →
        LoopStepU h₀ env.locals [s.heap.objs.size] own (fun m nx => nx.map (·.1) = news.map (·.1) ∧ (l, W.listOf vs.toArray nn) ∈ nx ∧ J (i + 1) m nx) { s with heap := hh', toks := tk' } .next s₂ := by
      rintro ⟨h', tk, m', news', nx, e, F', N', hn, ho, ha, hm⟩
      exact ⟨rfl, h', tk, m', nx, e, F', own_cut hown hget hlo hm.1 N' hn ho, new_off N ha, ha, hm⟩
    cases f with
    | ret v => exact .ret p
    | brk => exact .brk p
    | next => exact .next (fin p)
    | cont => exact .cont (fin p)
  · rintro h' tk m' news' F' N' _ ⟨ha, hl', hJ⟩
    exact done m' news' h' tk ha hl' hJ F' N'

def NextN (h₀ : Heap) (L : Addr) (J : (Str → Option Value) → Ledger → Prop) (own : Ledger) (adr : List Addr) (s₁ : Shared) (f : Flow) (s₂ : Shared) : Prop := f = .next ∧ InvEndN h₀ L J own adr s₁ s₂

/-- the same, the item unpacked by the for's own target -/
theorem iter_valT {l : Addr} {vs : List Value} {nn : Nat} {m₀ : Str → Option Value} {news : Ledger} (J : Nat → (Str → Option Value) → Ledger → Prop)
    (hh : A.handled = none) (hl : (l, W.listOf vs.toArray nn) ∈ news) (F : Fr h₀ env.locals s.heap m₀) (N : News h₀ env.locals s.heap news) (hj : J 0 m₀ news)
    (turn : ∀ i v m₁ news₁ (s₁ : Shared) own, vs[i]? = some v → news₁.map (·.1) = news.map (·.1) → OwnOff own (news.map (·.1)) → (l, W.listOf vs.toArray nn) ∈ news₁ → J i m₁ news₁ → Fr h₀ env.locals s₁.heap m₁ → News h₀ env.locals s₁.heap (news₁ ++ own) →
      ∀ Qt : Flow → Shared → Prop, (∀ f s₂, NextN h₀ env.locals (fun m' nx => (l, W.listOf vs.toArray nn) ∈ nx ∧ J (i + 1) m' nx) own (news.map (·.1)) s₁ f s₂ → Qt f s₂) →
      wpAny (model prog w) A (assign target env v) (fun _ s₃ => wpAny (model prog w) A (execs body env) Qt E s₃) E s₁)
    (done : ∀ m₁ news₁ h tk, news₁.map (·.1) = news.map (·.1) → (l, W.listOf vs.toArray nn) ∈ news₁ → J vs.length m₁ news₁ → Fr h₀ env.locals h m₁ → News h₀ env.locals h news₁ → Q .next { s with heap := h, toks := tk }) :
    wpAny (model prog w) A (pyIter (.ref l)) (fun it s₂ => LoopAtT prog w A h₀ env target body Q E it s₂) E s := by
  have hol : s.heap.get? l = some (W.listOf vs.toArray nn) := (N _ hl).1
  have hls : s.heap.IsList l vs.toArray := ⟨_, hol, rfl, nn, rfl⟩
  have hne : l ≠ s.heap.objs.size := Nat.ne_of_lt (Heap.lt_size hol)
  refine wpAny_pyIter_list hls ?_
  have WL := Walks.list (prog := prog) (w := w) hh s.heap.objs.size l hne vs.toArray
  have hlen : vs.toArray.size = vs.length := by simp
  rw [hlen] at WL
  refine LoopT_i _ _ _ vs.length m₀ news (fun i m nx => nx.map (·.1) = news.map (·.1) ∧ (l, W.listOf vs.toArray nn) ∈ nx ∧ J i m nx) rfl WL ?_ ?_ (new_off N rfl)
    ⟨⟨_, Heap.get?_push_size _ rfl, rfl, rfl⟩, hls.at fun o e => Heap.get?_push_of_some _ e⟩ (F.push _) (fun p hp => ⟨Heap.get?_push_of_some _ (N p hp).1, (N p hp).2⟩) (fun i s' v Q' st hQ' => letGo_listiter st.1 hQ') ⟨rfl, hl, hj⟩ ?_ ?_
  · intro hm
    rcases List.mem_cons.mp hm with e | hm
    · exact absurd F.ns.lt (e ▸ Nat.lt_irrefl _)
    · exact (N _ hl).2.1 ((List.mem_singleton.mp hm).symm)
  · intro b hb
    rw [List.mem_singleton.mp hb]
    exact next_is_new F
  · rintro i v m₁ news₁ s₁ own _ hP ⟨hadr, hl₁, hJ⟩ _ hown hget _ _ F₁ N₁
    have hP' : vs[i]? = some v := by simpa using hP
    have hlo : s₁.heap.get? l = some (W.listOf vs.toArray nn) := (N₁ _ (List.mem_append.mpr (.inr hl₁))).1
    have N₂ : News h₀ env.locals s₁.heap (news₁ ++ own.filter fun p => decide (p.1 = s.heap.objs.size)) := fun p hp => N₁ p ((List.mem_append.mp hp).elim (fun h => List.mem_append.mpr (.inr h)) fun h => List.mem_append.mpr (.inl ((List.mem_filter.mp h).1)))
    refine wpAny_mono (turn i v m₁ news₁ s₁ _ hP' hadr (own_off N) hl₁ hJ F₁ N₂ _ (fun _ _ h => h)) (fun _ s₂ p => wpAny_mono p (fun f s₃ q => ?_) fun _ _ e => e) fun _ _ e => e
    obtain ⟨rfl, h', tk, m', news', nx, e, F', N', hn, ho, ha, hm⟩ := q
    exact ⟨rfl, h', tk, m', nx, e, F', own_cut hown hget hlo hm.1 N' hn ho, new_off N ha, ha, hm⟩
  · rintro h' tk m' news' F' N' _ ⟨ha, hl', hJ⟩
    exact done m' news' h' tk ha hl' hJ F' N'
end
end Mine
end
/-! part Comp53 -/
section
open PySem PySem.W PyProof.Rows PySem.Builtin PySem.Builtin.Str
namespace Mine
open LCg LCp LCt
section
variable {prog : Program} {w : World} {A : Around} {h₀ : Heap} {L : Addr} {m : PySem.Str → Option Value} {env : Env} {elt ct : PySem.Expr} {x x₂ : PySem.Str} {scope : Scope} {cl : List (PySem.Str × Addr)} {s : Shared} {S : Ledger → Prop} {P : Nat → Value → Prop} {Fin : List Value → Ledger → Prop} {news : Ledger}

/-- a comprehension's turns by a relation between what is taken and what is made -/
theorem rest_U {n : Nat} (Rel : Nat → List Value → Prop) (h0 : Rel 0 [])
    (turn : ∀ i v ys I oI C oC D m₂ h tk (E' : Value → Shared → Prop), i < n → P i v → Rel i ys → NsObj oC m₂ → m₂ x = some v → Fr h₀ L h m → News h₀ L h ((I, oI) :: (C, oC) :: (D, lst ys) :: news) → Off3 I C D news → ((@Ne Nat I C) ∧ (@Ne Nat I D) ∧ (@Ne Nat C D)) →
      wpAny (model prog w) A (eval elt (compEnvC scope cl C env)) (CompEnd h₀ L m { s with heap := h, toks := tk } I oI C oC D (lst ys) S (fun y news' => news' = news ∧ Rel (i + 1) (ys ++ [y]))) E' { s with heap := h, toks := tk })
    (fin : ∀ ys, Rel n ys → Fin ys news) : CompRest prog w A h₀ L m env elt x scope cl s S P Fin n 0 [] news := by
  have key : ∀ (j i : Nat) (ys : List Value), i + j = n → Rel i ys → CompRest prog w A h₀ L m env elt x scope cl s S P Fin j i ys news := by
    intro j
    induction j with
    | zero =>
      intro i ys hi hy
      have e : i = n := by (first | lia | omega)
      subst e
      exact CompRest.zero (fin ys hy)
    | succ j ih =>
      intro i ys hi hy
      refine CompRest.succ ?_
      intro v I oI C oC D m₂ h tk E' hv hC hx F N off ne
      refine wpAny_mono (turn i v ys I oI C oC D m₂ h tk E' (by (first | lia | omega)) hv hy hC hx F N off ne) (fun y s₂ hq => ?_) fun _ _ e => e
      obtain ⟨h', tk', nw, e, F', N', off', hS, hn, hy'⟩ := hq
      rw [hn] at N' off' hS
      exact ⟨h', tk', news, e, F', N', off', hS, ih (i + 1) _ (by (first | lia | omega)) hy'⟩
  exact key n 0 [] (by (first | lia | omega)) h0

theorem ex5 {α β γ δ ε : Type} {p : α → β → γ → δ → ε → Prop} (a : α) (b : β) (c : γ) (d : δ) (e : ε) (h : p a b c d e) : ∃ a b c d e, p a b c d e := ⟨a, b, c, d, e, h⟩
theorem rest_P {n : Nat} (Rel : Nat → List Value → Prop) (h0 : Rel 0 [])
    (turn : ∀ i v, i < n → P i v → ∃ (t : Addr) (ot : Obj) (v₁ v₂ : Value) (nt : Nat), v = .ref t ∧ (t, ot) ∈ news ∧ ot.cls = .type "tuple" ∧ ot.data = .seq #[v₁, v₂] nt ∧
      ∀ ys I oI C oC D m₂ h tk (E' : Value → Shared → Prop), Rel i ys → NsObj oC m₂ → m₂ x = some v₁ → m₂ x₂ = some v₂ → Fr h₀ L h m → News h₀ L h ((I, oI) :: (C, oC) :: (D, lst ys) :: news) → Off3 I C D news → ((@Ne Nat I C) ∧ (@Ne Nat I D) ∧ (@Ne Nat C D)) →
      wpAny (model prog w) A (eval elt (compEnvC scope cl C env)) (CompEnd h₀ L m { s with heap := h, toks := tk } I oI C oC D (lst ys) S (fun y news' => news' = news ∧ Rel (i + 1) (ys ++ [y]))) E' { s with heap := h, toks := tk })
    (fin : ∀ ys, Rel n ys → Fin ys news) : CompRestP prog w A h₀ L m env elt x x₂ scope cl s S P Fin n 0 [] news := by
  have key : ∀ (j i : Nat) (ys : List Value), i + j = n → Rel i ys → CompRestP prog w A h₀ L m env elt x x₂ scope cl s S P Fin j i ys news := by
    intro j
    induction j with
    | zero =>
      intro i ys hi hy
      have e : i = n := by (first | lia | omega)
      subst e
      exact CompRestP.zero (fin ys hy)
    | succ j ih =>
      intro i ys hi hy
      refine CompRestP.succ ?_
      intro v hv
      obtain ⟨t, ot, v₁, v₂, nt, e1, e2, e3, e4, go⟩ := turn i v (by (first | lia | omega)) hv
      refine ⟨t, ot, v₁, v₂, nt, e1, e2, e3, e4, ?_⟩
      intro I oI C oC D m₂ h tk E' hC hx hx₂ F N off ne
      refine wpAny_mono (go ys I oI C oC D m₂ h tk E' hy hC hx hx₂ F N off ne) (fun y s₂ hq => ?_) fun _ _ e => e
      obtain ⟨h', tk', nw, e, F', N', off', hS, hn, hy'⟩ := hq
      rw [hn] at N' off' hS
      exact ⟨h', tk', news, e, F', N', off', hS, ih (i + 1) _ (by (first | lia | omega)) hy'⟩
  exact key n 0 [] (by (first | lia | omega)) h0

theorem rest_T {n : Nat} (Rel : Nat → List Value → Prop) (h0 : Rel 0 [])
    (turn : ∀ i v ys I oI C oC D m₂ h tk (E' : Value → Shared → Prop), i < n → P i v → Rel i ys → NsObj oC m₂ → m₂ x = some v → Fr h₀ L h m → News h₀ L h ((I, oI) :: (C, oC) :: (D, lst ys) :: news) → Off3 I C D news → ((@Ne Nat I C) ∧ (@Ne Nat I D) ∧ (@Ne Nat C D)) →
      wpAny (model prog w) A (isTrue ct (compEnvC scope cl C env) (eval ct (compEnvC scope cl C env))) (fun ok s' => if ok = true then
        wpAny (model prog w) A (eval elt (compEnvC scope cl C env)) (CompEnd h₀ L m { s with heap := h, toks := tk } I oI C oC D (lst ys) S (fun y news' => news' = news ∧ Rel (i + 1) (ys ++ [y]))) E' s'
        else CompEnd h₀ L m { s with heap := h, toks := tk } I oI C oC D (lst ys) S (fun _ news' => news' = news ∧ Rel (i + 1) ys) Value.none s') E' { s with heap := h, toks := tk })
    (fin : ∀ ys, Rel n ys → Fin ys news) : CompRestT prog w A h₀ L m env ct elt x scope cl s S P Fin n 0 [] news := by
  have key : ∀ (j i : Nat) (ys : List Value), i + j = n → Rel i ys → CompRestT prog w A h₀ L m env ct elt x scope cl s S P Fin j i ys news := by
    intro j
    induction j with
    | zero =>
      intro i ys hi hy
      have e : i = n := by (first | lia | omega)
      subst e
      exact CompRestT.zero (fin ys hy)
    | succ j ih =>
      intro i ys hi hy
      refine CompRestT.succ ?_
      intro v I oI C oC D m₂ h tk E' hv hC hx F N off ne
      refine wpAny_mono (turn i v ys I oI C oC D m₂ h tk E' (by (first | lia | omega)) hv hy hC hx F N off ne) (fun ok s₂ hq => ?_) fun _ _ e => e
      cases ok with
      | true =>
        simp only [if_true] at hq ⊢
        refine wpAny_mono hq (fun y s₃ hq => ?_) fun _ _ e => e
        obtain ⟨h', tk', nw, e, F', N', off', hS, hn, hy'⟩ := hq
        rw [hn] at N' off' hS
        exact ⟨h', tk', news, e, F', N', off', hS, ih (i + 1) _ (by (first | lia | omega)) hy'⟩
      | false =>
        simp only [Bool.false_eq_true, if_false] at hq ⊢
        obtain ⟨h', tk', nw, e, F', N', off', hS, hn, hy'⟩ := hq
        rw [hn] at N' off' hS
        exact ⟨h', tk', news, e, F', N', off', hS, ih (i + 1) _ (by (first | lia | omega)) hy'⟩
  exact key n 0 [] (by (first | lia | omega)) h0
end

theorem join_T (rows : List (List Nat)) : Txt.join (T []) (rows.map T) = T rows.flatten := by
  show glued (T []) (rows.map T) = _
  rw [PySem.StrLaws.glued_eq_join]
  induction rows with
  | nil => rfl
  | cons r rows ih =>
    cases rows with
    | nil => simp only [List.map_cons, List.map_nil, List.flatten_cons, List.flatten_nil, List.append_nil]; rfl
    | cons r2 rows =>
      show T r ++ T [] ++ PySem.Str.join (T []) ((r2 :: rows).map T) = _
      rw [ih, T_app, T_app]
      simp only [List.flatten_cons, List.append_nil]
theorem map_T_len (rows : List (List Nat)) : ((rows.map T).map (·.length)).sum = rows.flatten.length := by
  induction rows with
  | nil => rfl
  | cons r rows ih => simp only [List.map_cons, List.sum_cons, List.flatten_cons, List.length_append, T_len, ih]

section
variable {prog : Program} {w : World} {A : Around} {E : Value → Shared → Prop} {s : Shared} {t : Tok} {h₀ : Heap} {L : Addr} {m : PySem.Str → Option Value} {news : List (Addr × Obj)} {Q : Value → Shared → Prop}
theorem join_X {D : Addr} {vs : List Value} {rows : List (List Nat)} {n : Nat} {x : PySem.Str} (hx : x = T []) (N : News h₀ L s.heap news) (hm : (D, W.listOf vs.toArray n) ∈ news) (hi : StrsAre vs (rows.map T)) (hz : rows.flatten.length ≤ 1000000)
    (h : ∀ t' k, Q (.str (T rows.flatten) t') { s with toks := k }) : wpAny (model prog w) A (call (.builtin "str.join") [.str x t, .ref D]) Q E s := by
  subst hx
  refine join_list (News.isList N hm) hi ?_ (fun t' k => ?_)
  · rw [map_T_len, T_len]; simp only [List.length_nil, Nat.mul_zero]; (first | lia | omega)
  · rw [join_T]; exact h t' k
theorem max_X {D : Addr} {vs : List Value} {ns : List Int} {n : Nat} (hh : A.handled = none) (F : Fr h₀ L s.heap m) (N : News h₀ L s.heap news) (hm : (D, W.listOf vs.toArray n) ∈ news) (hi : IntsAre vs ns) (hne : 0 < ns.length)
    (h : ∀ h' M (t : Tok) tk, Fr h₀ L h' m → News h₀ L h' news → M ∈ ns → (∀ a, a ∈ ns → a ≤ M) → Q (.int M t) { s with heap := h', toks := tk }) : wpAny (model prog w) A (call (.builtin "max") [.ref D]) Q E s :=
  max_list_N hh F N (News.isList N hm) hi hne h
theorem min_X {D : Addr} {vs : List Value} {ns : List Int} {n : Nat} (hh : A.handled = none) (F : Fr h₀ L s.heap m) (N : News h₀ L s.heap news) (hm : (D, W.listOf vs.toArray n) ∈ news) (hi : IntsAre vs ns) (hne : 0 < ns.length)
    (h : ∀ h' M (t : Tok) tk, Fr h₀ L h' m → News h₀ L h' news → M ∈ ns → (∀ a, a ∈ ns → M ≤ a) → Q (.int M t) { s with heap := h', toks := tk }) : wpAny (model prog w) A (call (.builtin "min") [.ref D]) Q E s :=
  min_list_N hh F N (News.isList N hm) hi hne h
/-- two texts are known to be the same: kept from the closers' eyes -/
def SameT (a b : List Nat) : Prop := a = b
theorem ne_K {x y : PySem.Str} {a b : List Nat} {t u : Tok} (hx : x = T a) (hy : y = T b) (hs : SameT a b) (h : Q (.bool false) s) : wpAny (model prog w) A (compareOp .NotEq (.str x t) (.str y u)) Q E s := by
  refine ne_X hx hy ?_
  rw [decide_eq_false (fun g => g hs)]
  exact h
end
end Mine
end
/-! part Gt53 -/
section
open PySem PySem.W PyProof.Rows PySem.Builtin PySem.Calls
namespace Mine
section
variable {prog : Program} {w : World} {A : Around} {E : Value → Shared → Prop} {s : Shared}
theorem gt_tree {a b : Addr} {x1 x2 y1 y2 : Int} {t1 t2 u1 u2 : Tok} {na nb : Nat} {oa ob : Obj} {P : Fin → Shared → Prop}
    (hoa : s.heap.get? a = some oa) (hda : oa.data = .seq #[.int x1 t1, .int x2 t2] na) (hob : s.heap.get? b = some ob) (hcb : ob.cls = .type "tuple") (hdb : ob.data = .seq #[.int y1 u1, .int y2 u2] nb)
    (h : P (.done (.ret (.bool (decide (y1 < x1 ∨ (x1 = y1 ∧ y2 < x2)))))) s) :
    wpAny (model prog w) A (Builtin.«tuple.__gt__» ⟨[.ref a, .ref b], []⟩) P E s := by
  have hTb : s.TypeIs (.ref b) "tuple" := ⟨ob, hob, hcb⟩
  show wpAny _ _ (isInstance (.ref b) (.type "tuple") >>= _) _ _ s
  refine wpAny_bind (wpAny_isInstance hTb isSubtype_tuple_tuple ?_)
  simp only [Bool.not_true, Bool.false_eq_true, if_false]
  refine wpAny_bind (wpAny_tupleItemsOf hoa hda ?_)
  refine wpAny_bind (wpAny_tupleItemsOf hob hdb ?_)
  refine wpAny_bind ?_
  refine wpAny_forIn_list _
    (fun rest r s' => r.1 = none ∧ s' = s ∧ (rest = [(.int x1 t1, .int y1 u1), (.int x2 t2, .int y2 u2)] ∨ (rest = [(.int x2 t2, .int y2 u2)] ∧ x1 = y1) ∨ (rest = [] ∧ x1 = y1 ∧ x2 = y2)))
    _ ?_ ?_ _ _ ⟨rfl, rfl, .inl rfl⟩
  · rintro ⟨p, q⟩ rest r s' ⟨hr, rfl, hc⟩
    rcases hc with hc | ⟨hc, h1⟩ | ⟨hc, _⟩
    · simp only [List.cons.injEq, Prod.mk.injEq] at hc
      obtain ⟨⟨rfl, rfl⟩, rfl⟩ := hc
      refine wpAny_bind (wpAny_eqBool_int ?_)
      by_cases hk : x1 = y1
      · rw [show (x1 == y1) = true by simp [hk]]
        simp only [Bool.not_true, Bool.false_eq_true, if_false]
        exact wpAny_pure ⟨rfl, rfl, .inr (.inl ⟨by trivial, hk⟩)⟩
      · rw [show (x1 == y1) = false by simp [hk]]
        simp only [Bool.not_false, if_true]
        refine wpAny_bind (wpAny_rule (wpAny_bind ?_))
        show wpAny _ _ (compareOp .Gt (.int x1 t1) (.int y1 u1)) _ _ _
        refine PyProof.Rows.gt_int (wpAny_bind (wpAny_pure (wpAny_pure ?_)))
        refine wpAny_pure ?_
        have e : decide (y1 < x1) = decide (y1 < x1 ∨ (x1 = y1 ∧ y2 < x2)) := by simp [hk]
        rw [e]; exact h
    · simp only [List.cons.injEq, Prod.mk.injEq] at hc
      obtain ⟨⟨rfl, rfl⟩, rfl⟩ := hc
      refine wpAny_bind (wpAny_eqBool_int ?_)
      by_cases hk : x2 = y2
      · rw [show (x2 == y2) = true by simp [hk]]
        simp only [Bool.not_true, Bool.false_eq_true, if_false]
        exact wpAny_pure ⟨rfl, rfl, .inr (.inr ⟨by trivial, h1, hk⟩)⟩
      · rw [show (x2 == y2) = false by simp [hk]]
        simp only [Bool.not_false, if_true]
        refine wpAny_bind (wpAny_rule (wpAny_bind ?_))
        show wpAny _ _ (compareOp .Gt (.int x2 t2) (.int y2 u2)) _ _ _
        refine PyProof.Rows.gt_int (wpAny_bind (wpAny_pure (wpAny_pure ?_)))
        refine wpAny_pure ?_
        have e : decide (y2 < x2) = decide (y1 < x1 ∨ (x1 = y1 ∧ y2 < x2)) := by subst h1; simp
        rw [e]; exact h
    · cases hc
  · rintro ⟨r1, r2⟩ s' ⟨hr, rfl, hc⟩
    simp only at hr
    subst hr
    rcases hc with hc | ⟨hc, _⟩ | ⟨_, h1, h2⟩
    · cases hc
    · cases hc
    · refine wpAny_pure ?_
      have e : decide (y1 < x1 ∨ (x1 = y1 ∧ y2 < x2)) = false := by subst h1; subst h2; simp
      rw [e] at h
      exact h
theorem gt_pair {a b : Addr} {x1 x2 y1 y2 : Int} {t1 t2 u1 u2 : Tok} {na nb : Nat} {Q : Value → Shared → Prop} {h₀ : Heap} {L : Addr} {news : List (Addr × Obj)} (hu : A.units < cLine) (N : News h₀ L s.heap news)
    (ha : (a, ({ cls := .type "tuple", data := .seq #[.int x1 t1, .int x2 t2] na } : Obj)) ∈ news) (hb : (b, ({ cls := .type "tuple", data := .seq #[.int y1 u1, .int y2 u2] nb } : Obj)) ∈ news)
    (h : Q (.bool (decide (y1 < x1 ∨ (x1 = y1 ∧ y2 < x2)))) s) : wpAny (model prog w) A (compareOp .Gt (.ref a) (.ref b)) Q E s := by
  show wpAny _ _ (richCompare .Gt (.ref a) (.ref b)) Q E s
  have hTa : s.TypeIs (.ref a) "tuple" := ⟨_, (N _ ha).1, rfl⟩
  have hTb : s.TypeIs (.ref b) "tuple" := ⟨_, (N _ hb).1, rfl⟩
  exact wpAny_richCompare_same_room (op := .Gt) hTa hTb F.slot_tuple_gt
    (wpAny_call_entry F.slot_tuple_gt hTa F.entry_tuple_gt (gt_tree (N _ ha).1 rfl (N _ hb).1 rfl rfl ⟨_, rfl, (fun e => nomatch e), h⟩) (F.args_tuple_gt_2 _ _)) hu
end
end Mine
end
/-! part Sel53 -/
section
open PySem PySem.W PyProof.Rows PySem.Calls
namespace Mine
open LCg
/-- the list holds pairs whose second is a bool -/
inductive SelIn (news : Ledger) : List Value → List Bool → Prop
  | nil : SelIn news [] []
  | cons {q : Addr} {v : Value} {b : Bool} {n : Nat} {vs : List Value} {bs : List Bool} : (q, ({ cls := .type "tuple", data := .seq #[v, .bool b] n } : Obj)) ∈ news → SelIn news vs bs → SelIn news (.ref q :: vs) (b :: bs)
theorem SelIn.get {news : Ledger} {vs : List Value} {bs : List Bool} (h : SelIn news vs bs) : ∀ {i : Nat} {v : Value}, vs[i]? = some v → ∃ q y b n, v = .ref q ∧ (q, ({ cls := .type "tuple", data := .seq #[y, .bool b] n } : Obj)) ∈ news ∧ bs[i]? = some b := by
  induction h with
  | nil => intro i v e; simp at e
  | cons hq _ ih =>
    intro i v e
    cases i with
    | zero => simp at e; exact ⟨_, _, _, _, e.symm, hq, rfl⟩
    | succ i => simpa using ih (by simpa using e)
theorem take_snoc0 {α : Type} {l : List α} {i : Nat} {a : α} (h : l[i]? = some a) : l.take (i + 1) = l.take i ++ [a] := by
  rw [List.take_add_one, h]; rfl
theorem SelIn.len {news : Ledger} {vs : List Value} {bs : List Bool} (h : SelIn news vs bs) : vs.length = bs.length := by
  induction h with
  | nil => rfl
  | cons _ _ ih => simp [ih]

section
variable {prog : Program} {w : World} {A : Around} {E : Value → Shared → Prop} {h₀ : Heap} {L : Addr} {m : Str → Option Value} {env : Env}
def SelJ (s₂ : Shared) (h₀ : Heap) (L I ax : Addr) (m : Str → Option Value) (vs : List Value) (bs : List Bool) (D C : Addr) (news : Ledger) (k : Nat) (s' : Shared) : Prop :=
  ∃ h' tk i ys m', s' = { s₂ with heap := h', toks := tk } ∧ i ≤ vs.length ∧ k = vs.length + 1 - i ∧ h'.IsListIter I ax i ∧ Fr h₀ L h' m ∧ h'.Ns C m' ∧ News h₀ L h' ((D, lst ys) :: news) ∧ ys.length = ((bs.take i).filter id).length
theorem SelJ.mk {s₂ : Shared} {h₀ : Heap} {L I ax : Addr} {m : Str → Option Value} {vs : List Value} {bs : List Bool} {D C : Addr} {news : Ledger} {h' : Heap} {tk i : Nat} {ys : List Value} {m' : Str → Option Value} (a : i ≤ vs.length) (b : h'.IsListIter I ax i) (c : Fr h₀ L h' m) (d : h'.Ns C m') (e : News h₀ L h' ((D, lst ys) :: news)) (f : ys.length = ((bs.take i).filter id).length) :
    SelJ s₂ h₀ L I ax m vs bs D C news (vs.length + 1 - i) { s₂ with heap := h', toks := tk } := ⟨h', tk, i, ys, m', rfl, a, rfl, b, c, d, e, f⟩
theorem SelJ.elim {s₂ : Shared} {h₀ : Heap} {L I ax : Addr} {m : Str → Option Value} {vs : List Value} {bs : List Bool} {D C : Addr} {news : Ledger} {G : Nat → Shared → Prop}
    (H : ∀ h' tk i ys m', i ≤ vs.length → h'.IsListIter I ax i → Fr h₀ L h' m → h'.Ns C m' → News h₀ L h' ((D, lst ys) :: news) → ys.length = ((bs.take i).filter id).length → G (vs.length + 1 - i) { s₂ with heap := h', toks := tk }) : ∀ k s', SelJ s₂ h₀ L I ax m vs bs D C news k s' → G k s' := by
  intro k s' h
  obtain ⟨h', tk, i, ys, m', rfl, a, rfl, b, c, d, e, f⟩ := h
  exact H h' tk i ys m' a b c d e f
theorem sel_block {x x₂ : Str} {px px₂ tp pe pc pos : Pos} {tk : Nat} {iter : PySem.Expr} {scope : Scope} {cl : List (Str × Addr)} {s₂ : Shared} {I ax : Addr} {vs : List Value} {bs : List Bool} {nn : Nat} {news : Ledger} {RR : Value → Addr → Result → Shared → Prop}
    (hh : A.handled = none) (hI : s₂.heap.IsListIter I ax 0) (hm : (ax, W.listOf vs.toArray nn) ∈ news) (hsel : SelIn news vs bs) (hsz : vs.length ≤ 1000000)
    (hcell : ∀ y ∈ scope.names, y.2 ≠ .cell) (hkind : scope.kind = .function) (hx : scope.names.lookup x = some .local) (hx₂ : scope.names.lookup x₂ = some .local) (hxx : x ≠ x₂) (hd1 : (x == ("__debug__" : Str)) = false) (hd2 : (x₂ == ("__debug__" : Str)) = false)
    (F : Fr h₀ L s₂.heap m) (N : News h₀ L s₂.heap news) (hIL : L ≠ I) (hI₀ : h₀.get? I = none) (off : ∀ p ∈ news, p.1 ≠ I)
    (hRR : ∀ D C h tk m' ys, Fr h₀ L h m → News h₀ L h ((D, lst ys) :: news) → h.Ns C m' → h₀.get? C = none → C ≠ L → C ≠ D → (∀ p ∈ news, p.1 ≠ C ∧ p.1 ≠ D) → ys.length = (bs.filter id).length → RR (.ref D) C (.ok .next) { s₂ with heap := h, toks := tk }) :
    wpAny (model prog w) A (newList []) (fun acc s₃ => wpAny (model prog w) A (newFunctionEnv scope env.globals cl [] env.qual none .none (some env)) (fun cenv s₄ =>
      codeAny (model prog w) A (.compStart (.ListComp (.Name x pe) [⟨.Tuple [.Name x px, .Name x₂ px₂] tk tp, iter, [.Name x₂ pc], 0⟩] scope pos) 0 (.ref I) acc { cenv with scope := relabel scope env }) (RR acc cenv.locals) s₄) E s₃) E s₂ := by
  refine wpAny_newObj_type (wpAny_newFunctionEnv hcell (by intro y hy; simp at hy) (fun h₁ hns₁ hsb₁ => ?_) hkind)
  dsimp only at hns₁ hsb₁ ⊢
  generalize hH2 : s₂.heap.push { cls := .type "list", dict := none, data := .seq ([] : List Value).toArray } = H2 at hns₁ hsb₁ ⊢
  have hC : H2.objs.size = s₂.heap.objs.size + 1 := by rw [← hH2, Heap.size_push]
  generalize hD : s₂.heap.objs.size = D at hC ⊢
  generalize hCC : H2.objs.size = C at hC hns₁ hsb₁ ⊢
  have up2 : ∀ b o, s₂.heap.get? b = some o → H2.get? b = some o := fun b o e => hH2 ▸ Heap.get?_push_of_some _ e
  have low : ∀ b o, s₂.heap.get? b = some o → b ≠ C ∧ b ≠ D := fun b o e => by
    have h1 := Heap.lt_size e
    rw [hD] at h1
    have h2 : @LT.lt Nat _ b D := h1
    have h3 : @Eq Nat C (D + 1) := hC
    exact ⟨fun q => by have q' : @Eq Nat b C := q; (first | lia | omega), fun q => by have q' : @Eq Nat b D := q; (first | lia | omega)⟩
  have old : ∀ b o, s₂.heap.get? b = some o → h₁.get? b = some o := fun b o e => hsb₁.extBut b o (low b o e).1 (Heap.get?_push_of_some _ (up2 b o e))
  have hDC : D ≠ C := by rw [hC]; exact Nat.ne_of_lt (Nat.lt_succ_self _)
  have hacc : h₁.get? D = some (lst []) := hsb₁.extBut _ _ hDC (Heap.get?_push_of_some _ (by rw [← hH2, ← hD]; exact Heap.get?_push_size _ rfl))
  have fresh : ∀ a, D ≤ a → h₀.get? a = none := fun a ha => by
    cases e : h₀.get? a with
    | none => rfl
    | some o' => exact absurd (Heap.lt_size (F.keep a o' e)) (by rw [hD]; exact Nat.not_lt.mpr ha)
  have hD₀ := fresh D (Nat.le_refl _)
  have hC₀ := fresh C (by rw [hC]; exact Nat.le_succ _)
  have hLlt : L < D := hD ▸ F.ns.lt
  have hDL : D ≠ L := Nat.ne_of_gt hLlt
  have hCL : C ≠ L := Nat.ne_of_gt (by rw [hC]; exact Nat.lt_succ_of_lt hLlt)
  obtain ⟨oI, hoI, hcI, hdI⟩ := id hI
  obtain ⟨hIC, hID⟩ := low I oI hoI
  have newsLow : ∀ p ∈ news, p.1 ≠ C ∧ p.1 ≠ D := fun p hp => low _ _ (N p hp).1
  have haxI : ax ≠ I := off _ hm
  have haxC := (newsLow _ hm).1
  have haxD := (newsLow _ hm).2
  have WL := Walks.list (prog := prog) (w := w) hh I ax haxI vs.toArray
  have hlen : vs.toArray.size = vs.length := by simp
  rw [hlen] at WL
  have hbs := hsel.len
  have loop : ∀ s₃ : Shared, s₃ = { s₂ with heap := h₁, toks := s₂.toks + ([] : List (Str × Value)).length } →
      codeAny (model prog w) A (.compLoop (.ListComp (.Name x pe) [⟨.Tuple [.Name x px, .Name x₂ px₂] tk tp, iter, [.Name x₂ pc], 0⟩] scope pos) 0 (.ref I) (.ref D) (compEnvC scope cl C env)) (RR (.ref D) C) s₃ := by
    rintro s₃ rfl
    refine kct_loop (SelJ s₂ h₀ L I ax m vs bs D C news) ?_ (vs.length + 1)
      (SelJ.mk (i := 0) (ys := []) (Nat.zero_le _) ⟨oI, old _ _ hoI, hcI, hdI⟩ (F.keeps old) hns₁ (fun p hp => ?_) rfl)
    · refine SelJ.elim ?_
      intro h' tk' i ys m' hi hit F' hn' N' hyl
      have hls : h'.IsList ax vs.toArray := ⟨_, (N' _ (List.mem_cons_of_mem _ hm)).1, rfl, nn, rfl⟩
      by_cases hlt : i < vs.length
      · refine WL.item i _ _ _ hlt ⟨hit, hls⟩ fun v h₂ tk₂ hPv hst₂ hk₂ => ?_
        have hv : vs[i]? = some v := by simpa using hPv
        obtain ⟨q, y, b, n, rfl, hq, hb⟩ := hsel.get hv
        have N₂ : News h₀ L h₂ ((D, lst ys) :: news) := news_but N' hk₂ fun p hp => by
          rcases List.mem_cons.mp hp with rfl | hp
          · exact Ne.symm hID
          · exact off p hp
        have hn₂ : h₂.Ns C m' := hn'.at' fun o e => hk₂ _ o (by simpa using Ne.symm hIC) e
        have F₂ := fr_but F' hk₂ hIL hI₀
        refine letGo_listiter hst₂.1 ?_
        refine kcp_assign (env := compEnvC scope cl C env) hh ⟨_, (N₂ _ (List.mem_cons_of_mem _ hq)).1, rfl, n, rfl⟩ (lookup_relabel_local hx) (lookup_relabel_local hx₂) (by simp [compEnvC, relabel, hkind]) hn₂ fun h₃ tk₃ hn₃ hk₃ => ?_
        have hk3 : ∀ c o, c ≠ C → h₂.get? c = some o → h₃.get? c = some o := hk₃
        have F₃ : Fr h₀ L h₃ m := ⟨F₂.ns.at' fun o e => hk3 _ o (Ne.symm hCL) e, fun c o e => hk3 c o (fun q => by rw [q, hC₀] at e; cases e) (F₂.keep c o e), F₂.above⟩
        have N₃ : News h₀ L h₃ ((D, lst ys) :: news) := fun p hp => ⟨hk3 _ _ (by
          rcases List.mem_cons.mp hp with rfl | hp
          · exact hDC
          · exact (newsLow p hp).1) (N₂ p hp).1, (N₂ p hp).2⟩
        have hit₃ : h₃.IsListIter I ax (i + 1) := hst₂.1.at fun o e => hk3 I o hIC e
        have htk : bs.take (i + 1) = bs.take i ++ [b] := take_snoc0 hb
        refine isTrue_plain (ldVarK (v := .bool b) hn₃ (by simp) ?_ (by simp [compEnvC, relabel, hkind]) (lookup_relabel_local hx₂) hd2)
        refine wpAny_truthy_bool ?_
        cases b with
        | false =>
          simp only [Bool.false_eq_true, if_false]
          refine ⟨vs.length + 1 - (i + 1), by (first | lia | omega), SelJ.mk (ys := ys) hlt hit₃ F₃ hn₃ N₃ ?_⟩
          rw [htk, List.filter_append]
          simpa using hyl
        | true =>
          simp only [if_true]
          refine ldVarK (v := y) hn₃ (by simp [hxx]) ?_ (by simp [compEnvC, relabel, hkind]) (lookup_relabel_local hx) hd1
          have zD := (N₃ (D, lst ys) List.mem_cons_self).1
          have hyz : ys.length ≤ 1000000 := by
            rw [hyl]
            refine Nat.le_trans (List.length_filter_le _ _) ?_
            rw [List.length_take]; (first | lia | omega)
          refine append_at (hsz := by show ys.toArray.size ≤ sizeLine; rw [List.size_toArray]; exact line_of hyz) zD fun h₅ hs₅ hD₅ => ?_
          refine ⟨vs.length + 1 - (i + 1), by (first | lia | omega), SelJ.mk (ys := ys ++ [y]) hlt (hit₃.at fun o e => hs₅.extBut I o hID e) (F₃.change hs₅ hDL hD₀) (hn₃.sameBut hs₅ (Ne.symm hDC)) (fun p hp => ?_) ?_⟩
          · rcases List.mem_cons.mp hp with rfl | hp
            · exact ⟨hD₅.trans (congrArg some (lst_snoc ys y)), hDL, hD₀⟩
            · exact ⟨hs₅.extBut _ _ (newsLow p hp).2 (N₃ p (List.mem_cons_of_mem _ hp)).1, (N₃ p (List.mem_cons_of_mem _ hp)).2⟩
          · rw [htk, List.filter_append, List.length_append, List.length_append, hyl]; rfl
      · obtain rfl : i = vs.length := Nat.le_antisymm hi (Nat.not_lt.mp hlt)
        refine WL.done _ _ _ ⟨hit, hls⟩ fun h₂ tk₂ hk₂ => ?_
        refine hRR _ _ h₂ tk₂ m' ys (fr_but F' hk₂ hIL hI₀) (news_but N' hk₂ fun p hp => by
          rcases List.mem_cons.mp hp with rfl | hp
          · exact Ne.symm hID
          · exact off p hp) (hn'.at' fun o e => hk₂ _ o (by simpa using Ne.symm hIC) e) hC₀ hCL (Ne.symm hDC) newsLow ?_
        rw [hyl, hbs, List.take_length]
    · rcases List.mem_cons.mp hp with rfl | hp
      · exact ⟨hacc, hDL, hD₀⟩
      · exact ⟨old _ _ (N p hp).1, (N p hp).2⟩
  exact codeAny_compStart_list (loop _ rfl) (WL.self 0 _ _ _ ⟨⟨oI, old _ _ hoI, hcI, hdI⟩, ⟨_, old _ _ (N _ hm).1, rfl, nn, rfl⟩⟩ (loop _ rfl))
def SelSrc (A : Around) (h₀ : Heap) (L : Addr) (m : Str → Option Value) (Q : Value → Shared → Prop) (xv : Value) (s₁ : Shared) : Prop :=
  ∃ ax vs bs nn news, xv = .ref ax ∧ A.handled = none ∧ Fr h₀ L s₁.heap m ∧ News h₀ L s₁.heap news ∧ (ax, W.listOf vs.toArray nn) ∈ news ∧ SelIn news vs bs ∧ vs.length ≤ 1000000 ∧
    ∀ D h tk ys, Fr h₀ L h m → News h₀ L h ((D, lst ys) :: news) → (∀ p ∈ news, p.1 ≠ D) → ys.length = (bs.filter id).length → Q (.ref D) { s₁ with heap := h, toks := tk }
theorem SelSrc.intro {Q : Value → Shared → Prop} {s₁ : Shared} {ax : Addr} {vs : List Value} (bs : List Bool) {nn : Nat} {news : Ledger} (hh : A.handled = none) (F : Fr h₀ L s₁.heap m) (N : News h₀ L s₁.heap news) (hm : (ax, W.listOf vs.toArray nn) ∈ news) (hs : SelIn news vs bs) (hz : vs.length ≤ 1000000)
    (h : ∀ D h tk ys, Fr h₀ L h m → News h₀ L h ((D, lst ys) :: news) → (∀ p ∈ news, p.1 ≠ D) → ys.length = (bs.filter id).length → Q (.ref D) { s₁ with heap := h, toks := tk }) : SelSrc A h₀ L m Q (.ref ax) s₁ :=
  ⟨ax, vs, bs, nn, news, rfl, hh, F, N, hm, hs, hz, h⟩
theorem comp_sel {s : Shared} {x x₂ : Str} {px px₂ tp pe pc pos : Pos} {tk : Nat} {iter : PySem.Expr} {scope : Scope} {cl : List (Str × Addr)} {Q : Value → Shared → Prop}
    (_F₀ : Fr h₀ L s.heap m) (hclos : closureFor scope env = pure cl) (hcell : ∀ y ∈ scope.names, y.2 ≠ .cell) (hkind : scope.kind = .function)
    (hnames : ∀ y ∈ scope.names, y.2 = .local → scope.names.lookup y.1 = some .local) (hx : scope.names.lookup x = some .local) (hx₂ : scope.names.lookup x₂ = some .local) (hxx : x ≠ x₂) (hd1 : (x == ("__debug__" : Str)) = false) (hd2 : (x₂ == ("__debug__" : Str)) = false)
    (h : wpAny (model prog w) A (eval iter env) (SelSrc A h₀ L m Q) E s)
    (hs : ∀ x, foldedSetIterable iter env x = pure x := by intro _; rfl) :
    wpAny (model prog w) A (eval (.ListComp (.Name x pe) [⟨.Tuple [.Name x px, .Name x₂ px₂] tk tp, iter, [.Name x₂ pc], 0⟩] scope pos) env) Q E s := by
  rw [eval_ListComp]
  refine wpAny_comprehension_free (use := none) rfl hs hclos hkind hnames (wpAny_mono h (fun xv s₁ h₁ => ?_) fun _ _ e => e)
  obtain ⟨ax, vs, bs, nn, news, rfl, hh, F, N, hm, hsel, hsz, fin⟩ := h₁
  have hl : s₁.heap.IsList ax vs.toArray := ⟨_, (N _ hm).1, rfl, nn, rfl⟩
  refine wpAny_pyIter_list hl ?_
  have up : ∀ b o, s₁.heap.get? b = some o → (s₁.heap.push { cls := .type "list_iterator", data := .fields #[.ref ax, .int 0 0] }).get? b = some o := fun b o e => Heap.get?_push_of_some _ e
  refine sel_block hh ⟨_, Heap.get?_push_size _ rfl, rfl, rfl⟩ hm hsel hsz hcell hkind hx hx₂ hxx hd1 hd2 (F.keeps up) (N.grown up) (Nat.ne_of_lt F.ns.lt) (next_is_new F) (fun p hp => Nat.ne_of_lt (Heap.lt_size (N p hp).1)) ?_
  intro D C h tk m' ys F' N' hn hC₀ hCL hCD offC hy
  refine ⟨m', hn, fun h'' hs'' => fin D h'' tk ys (F'.change hs'' hCL hC₀) (fun p hp => ?_) (fun p hp => (offC p hp).2) hy⟩
  refine ⟨hs''.extBut _ _ ?_ (N' p hp).1, (N' p hp).2⟩
  rcases List.mem_cons.mp hp with rfl | hp
  · exact Ne.symm hCD
  · exact (offC p hp).1
end
end Mine
end
/-! part Law53 -/
section
/-! the plain law of the pages: no program in sight -/
namespace Mine
theorem chop_len (w : Nat) (t : Txt0) : w * (chop w t).1.length + (chop w t).2.length = t.length := by
  induction t using chop.induct w with
  | case1 t h ih =>
    rw [chop_go h]
    simp only [List.length_cons, List.length_drop] at ih ⊢
    rw [Nat.mul_add, Nat.mul_one]
    (first | lia | omega)
  | case2 t h => rw [chop_stop h]; simp
theorem chop_some {w : Nat} {t : Txt0} (h : t ≠ []) : 1 ≤ (chop w t).2.length := by
  induction t using chop.induct w with
  | case1 t h' ih =>
    rw [chop_go h']
    refine ih fun e => ?_
    have := congrArg List.length e
    simp only [List.length_drop, List.length_nil] at this
    (first | lia | omega)
  | case2 t h' =>
    rw [chop_stop h']
    exact List.length_pos_iff.mpr h
theorem chop_two {n w : Nat} {t : Txt0} (hn : 1 ≤ n) (hw : n < w) (h : t ≠ []) :
    (chop w t).1.length ≤ (chop n t).1.length ∧ ((chop w t).1.length = (chop n t).1.length → (chop w t).2.length ≤ (chop n t).2.length) := by
  have a1 := chop_len w t
  have a2 := chop_len n t
  have b1 := (chop_left w t).resolve_left (by (first | lia | omega))
  have b2 := (chop_left n t).resolve_left (by (first | lia | omega))
  have c1 := chop_some (w := w) h
  have c2 := chop_some (w := n) h
  generalize (chop w t).1.length = kw at *
  generalize (chop n t).1.length = kn at *
  generalize (chop w t).2.length = rw1 at *
  generalize (chop n t).2.length = rn at *
  constructor
  · refine Nat.le_of_not_lt fun hlt => ?_
    have e1 : w * (kn + 1) ≤ w * kw := Nat.mul_le_mul_left _ hlt
    have e2 : n * (kn + 1) ≤ w * (kn + 1) := Nat.mul_le_mul_right _ (by (first | lia | omega))
    rw [Nat.mul_add, Nat.mul_one] at e1 e2
    rw [Nat.mul_add, Nat.mul_one] at e2
    (first | lia | omega)
  · intro e
    subst e
    have e2 : n * kw ≤ w * kw := Nat.mul_le_mul_right _ (by (first | lia | omega))
    (first | lia | omega)
theorem chop_none {w : Nat} {t : Txt0} (h : t.length ≤ w) : (chop w t).1.length = 0 ∧ (chop w t).2.length = t.length := by
  rw [chop_stop (by (first | lia | omega))]; exact ⟨rfl, rfl⟩
theorem chop_one {w : Nat} {t : Txt0} (h0 : 0 < w) (h : w < t.length) : 1 ≤ (chop w t).1.length := by
  rw [chop_go ⟨h0, h⟩]; simp only [List.length_cons]; (first | lia | omega)

theorem written_len (w : Nat) (p : Pg) (t : Txt0) (e : Bool) : (written w p t e).1.length = (broken w p t).1.length + (chop w t).1.length + (if e = true then 1 else 0) ∧ (written w p t e).2.length = if e = true then 0 else (broken w p t).2.length + (chop w t).2.length := by
  unfold written writeText endRow
  cases e <;> simp [Nat.add_assoc]
theorem broken_len (w : Nat) (p : Pg) (t : Txt0) : (broken w p t).1.length = p.1.length + (if 0 < w ∧ 0 < p.2.length ∧ w < p.2.length + t.length then 1 else 0) ∧ (broken w p t).2.length = if 0 < w ∧ 0 < p.2.length ∧ w < p.2.length + t.length then 0 else p.2.length := by
  unfold broken endRow
  split <;> simp

/-- a is not farther on than b: rows, then columns -/
def notFarther (a b : Pg) : Prop := a.1.length < b.1.length ∨ (a.1.length = b.1.length ∧ a.2.length ≤ b.2.length)
theorem step_notFarther {n w : Nat} (hn : 1 ≤ n) (hw : n < w) {p q : Pg} {t : Txt0} (e : Bool) (ht : t ≠ []) (h : notFarther p q) : notFarther (written w p t e) (written n q t e) := by
  obtain ⟨c1, c2⟩ := chop_two hn hw ht
  unfold notFarther at h ⊢
  rw [(written_len w p t e).1, (written_len w p t e).2, (written_len n q t e).1, (written_len n q t e).2, (broken_len w p t).1, (broken_len w p t).2, (broken_len n q t).1, (broken_len n q t).2]
  generalize (chop w t).1.length = kw at *
  generalize (chop n t).1.length = kn at *
  generalize (chop w t).2.length = rw1 at *
  generalize (chop n t).2.length = rn at *
  generalize p.1.length = p1 at *
  generalize p.2.length = p2 at *
  generalize q.1.length = q1 at *
  generalize q.2.length = q2 at *
  generalize t.length = tl at *
  clear ht
  have hc : kw = kn ∧ rw1 ≤ rn ∨ kw < kn := by
    by_cases g : kw = kn
    · exact .inl ⟨g, c2 g⟩
    · exact .inr (by (first | lia | omega))
  clear c1 c2
  by_cases g1 : 0 < w ∧ 0 < p2 ∧ w < p2 + tl
  · by_cases g2 : 0 < n ∧ 0 < q2 ∧ n < q2 + tl
    · simp only [if_pos g1, if_pos g2]
      clear g1 g2 hn hw
      cases e <;> simp only [if_true, Bool.false_eq_true, if_false] <;> (first | lia | omega)
    · simp only [if_pos g1, if_neg g2]
      have h9 : p1 < q1 := by (first | lia | omega)
      clear g1 g2 hn hw h
      cases e <;> simp only [if_true, Bool.false_eq_true, if_false] <;> (first | lia | omega)
  · by_cases g2 : 0 < n ∧ 0 < q2 ∧ n < q2 + tl
    · simp only [if_neg g1, if_pos g2]
      clear g1 g2 hn hw
      cases e <;> simp only [if_true, Bool.false_eq_true, if_false] <;> (first | lia | omega)
    · simp only [if_neg g1, if_neg g2]
      clear g1 g2 hn hw
      cases e <;> simp only [if_true, Bool.false_eq_true, if_false] <;> (first | lia | omega)

def pageAfter (w : Nat) (txs : List (Txt0 × Bool)) : Pg := txs.foldl (fun p t => written w p t.1 t.2) ([], [])
theorem pageAfter_snoc (w : Nat) (txs : List (Txt0 × Bool)) (t : Txt0 × Bool) : pageAfter w (txs ++ [t]) = written w (pageAfter w txs) t.1 t.2 := by
  unfold pageAfter; rw [List.foldl_append]; rfl
theorem pageAfter_nil (w : Nat) : pageAfter w [] = ([], []) := rfl

theorem pageAfter_ind (P : List (Txt0 × Bool) → Prop) (h0 : P []) (hs : ∀ txs t, P txs → P (txs ++ [t])) : ∀ txs, P txs := by
  have key : ∀ (r l : List (Txt0 × Bool)), P l → P (l ++ r) := by
    intro r
    induction r with
    | nil => intro l h; simpa using h
    | cons t r ih => intro l h; have := ih (l ++ [t]) (hs l t h); simpa using this
  intro txs
  have := key txs [] h0
  simpa using this

theorem pageAfter_grow {w : Nat} : ∀ txs : List (Txt0 × Bool), (∀ t ∈ txs, t.1.length ≤ 8) → (pageAfter w txs).1.length ≤ 10 * txs.length ∧ (pageAfter w txs).2.length ≤ 8 * txs.length := by
  refine pageAfter_ind _ (fun _ => ⟨Nat.le_refl _, Nat.le_refl _⟩) ?_
  intro txs t ih h
  have ih := ih fun u hu => h u (List.mem_append_left _ hu)
  have ht := h t (List.mem_append_right _ (.head _))
  have c1 := chop_count w t.1
  have c2 := chop_rest w t.1
  rw [pageAfter_snoc, (written_len _ _ _ _).1, (written_len _ _ _ _).2, (broken_len _ _ _).1, (broken_len _ _ _).2, List.length_append, List.length_cons, List.length_nil]
  constructor
  · split <;> split <;> (first | lia | omega)
  · split <;> (try split) <;> (first | lia | omega)

theorem pageAfter_notFarther {n w : Nat} (hn : 1 ≤ n) (hw : n < w) : ∀ txs : List (Txt0 × Bool), (∀ t ∈ txs, t.1 ≠ []) → notFarther (pageAfter w txs) (pageAfter n txs) := by
  refine pageAfter_ind _ (fun _ => .inr ⟨rfl, Nat.le_refl _⟩) ?_
  intro txs t ih h
  rw [pageAfter_snoc, pageAfter_snoc]
  exact step_notFarther hn hw _ (h t (List.mem_append_right _ (.head _))) (ih fun u hu => h u (List.mem_append_left _ hu))

theorem pageAfter_free : ∀ txs : List (Txt0 × Bool), (pageAfter 0 txs).1.length = ((txs.map (·.2)).filter id).length := by
  refine pageAfter_ind _ rfl ?_
  intro txs t ih
  rw [pageAfter_snoc, (written_len _ _ _ _).1, (broken_len _ _ _).1, ih, chop_stop (by (first | lia | omega))]
  simp only [Nat.lt_irrefl, false_and, if_false, List.map_append, List.map_cons, List.map_nil, List.filter_append, List.length_append, List.length_nil, Nat.add_zero]
  cases t.2 <;> simp

theorem allRows_flat (p : Pg) : (allRows p).flatten = p.1.flatten ++ p.2 := by
  unfold allRows
  rw [List.flatten_append]
  split
  · rename_i h; rw [h]; simp
  · simp
theorem written_flat (w : Nat) (p : Pg) (t : Txt0) (e : Bool) : (written w p t e).1.flatten ++ (written w p t e).2 = p.1.flatten ++ p.2 ++ t := by
  have h1 : (writeText w p t).1.flatten ++ (writeText w p t).2 = p.1.flatten ++ p.2 ++ t := by
    have h2 : (broken w p t).1.flatten ++ (broken w p t).2 = p.1.flatten ++ p.2 := by
      unfold broken endRow
      split <;> simp
    have h3 := chop_signs w t
    unfold writeText
    simp only [List.flatten_append]
    by_cases hc : (chop w t).1 = []
    · rw [hc] at h3 ⊢
      simp only [List.flatten_nil, List.nil_append, List.append_nil] at h3 ⊢
      rw [h3, ← List.append_assoc, h2]
    · by_cases hb : (broken w p t).2 = []
      · rw [hb] at h2 ⊢
        simp only [List.append_nil, List.nil_append] at h2 ⊢
        rw [h2, List.append_assoc, h3]
      · exfalso
        have hb2 := (broken_len w p t).2
        have hl : 0 < (broken w p t).2.length := List.length_pos_iff.mpr hb
        have hg : 0 < w ∧ w < t.length := by
          refine Decidable.byContradiction fun g => hc ?_
          rw [chop_stop g]
        split at hb2 <;> (first | lia | omega)
  unfold written endRow
  split
  · simp only [List.flatten_append, List.flatten_cons, List.flatten_nil, List.append_nil]; exact h1
  · exact h1
theorem pageAfter_flat (w : Nat) : ∀ txs : List (Txt0 × Bool), (allRows (pageAfter w txs)).flatten = (txs.map Prod.fst).flatten := by
  refine pageAfter_ind _ rfl ?_
  intro txs t ih
  rw [allRows_flat] at ih ⊢
  rw [pageAfter_snoc, written_flat, ih]
  simp

def Within (w : Nat) (p : Pg) : Prop := (∀ r ∈ p.1, r.length ≤ w) ∧ p.2.length ≤ w
theorem writeText_within {w : Nat} (hw : 0 < w) {p : Pg} {t : Txt0} (h : Within w p) : Within w (writeText w p t) := by
  have hb : Within w (broken w p t) := by
    unfold broken endRow
    split
    · refine ⟨fun r hr => ?_, Nat.zero_le _⟩
      rcases List.mem_append.mp hr with hr | hr
      · exact h.1 r hr
      · rw [List.mem_singleton.mp hr]; exact h.2
    · exact h
  have hl := (chop_left w t).resolve_left (by (first | lia | omega))
  have hb2 := (broken_len w p t).2
  refine ⟨fun r hr => ?_, ?_⟩
  · rcases List.mem_append.mp hr with hr | hr
    · exact hb.1 r hr
    · exact Nat.le_of_eq (chop_each w t r hr)
  · show ((broken w p t).2 ++ (chop w t).2).length ≤ w
    have hr := chop_rest w t
    rw [List.length_append]
    by_cases g : w < t.length
    · split at hb2 <;> (first | lia | omega)
    · split at hb2 <;> (first | lia | omega)
theorem endRow_within {w : Nat} {p : Pg} (h : Within w p) : Within w (endRow p) := by
  refine ⟨fun r hr => ?_, Nat.zero_le _⟩
  rcases List.mem_append.mp hr with hr | hr
  · exact h.1 r hr
  · rw [List.mem_singleton.mp hr]; exact h.2
theorem written_within {w : Nat} (hw : 0 < w) {p : Pg} {t : Txt0} {e : Bool} (h : Within w p) : Within w (written w p t e) := by
  unfold written
  split
  · exact endRow_within (writeText_within hw h)
  · exact writeText_within hw h
theorem pageAfter_within {w : Nat} (hw : 0 < w) : ∀ txs : List (Txt0 × Bool), Within w (pageAfter w txs) := by
  refine pageAfter_ind _ ⟨fun r hr => (nomatch hr), Nat.zero_le _⟩ ?_
  intro txs t ih
  rw [pageAfter_snoc]
  exact written_within hw ih
theorem allRows_within {w : Nat} {p : Pg} (h : Within w p) : ∀ r ∈ allRows p, r.length ≤ w := by
  intro r hr
  unfold allRows at hr
  rcases List.mem_append.mp hr with hr | hr
  · exact h.1 r hr
  · split at hr
    · nomatch hr
    · rw [List.mem_singleton.mp hr]; exact h.2
theorem allRows_some {p : Pg} (h : (allRows p).flatten ≠ []) : 0 < (allRows p).length := by
  refine List.length_pos_iff.mpr fun e => h ?_
  rw [e]; rfl
end Mine
end
/-! part Rng53 -/
section
open PySem PySem.W PyProof.Rows
namespace Mine
section
variable {prog : Program} {w : World} {A : Around} {E : Value → Shared → Prop} {s : Shared} {env : Env} {h₀ : Heap} {x : Str} {target : PySem.Expr} {body : List Stmt} {Q : Flow → Shared → Prop}
/-- the end of a turn that may have made more -/
def EndG (h₀ : Heap) (L : Addr) (J : (Str → Option Value) → Ledger → Prop) (I : Addr) (oI : Obj) (s₁ s₂ : Shared) : Prop :=
  ∃ h' tk m' nx, s₂ = { s₁ with heap := h', toks := tk } ∧ Fr h₀ L h' m' ∧ News h₀ L h' ((I, oI) :: nx) ∧ (∀ p ∈ nx, p.1 ≠ I) ∧ J m' nx
theorem EndG.intro {h₀ h' : Heap} {L : Addr} {J : (Str → Option Value) → Ledger → Prop} {I : Addr} {oI : Obj} {s₁ : Shared} {tk : Nat} {m' : Str → Option Value} {news' nx : Ledger} (F : Fr h₀ L h' m') (N : News h₀ L h' news') (hI : (I, oI) ∈ news') (hs : ∀ p ∈ nx, p ∈ news') (ho : ∀ p ∈ nx, p.1 ≠ I) (hj : J m' nx) :
    EndG h₀ L J I oI s₁ { s₁ with heap := h', toks := tk } :=
  ⟨h', tk, m', nx, rfl, F, news_of N (fun p hp => by rcases List.mem_cons.mp hp with rfl | hp; exact hI; exact hs p hp), ho, hj⟩
def PostG (h₀ : Heap) (L : Addr) (J : (Str → Option Value) → Ledger → Prop) (I : Addr) (oI : Obj) (s₁ : Shared) (Q : Flow → Shared → Prop) (f : Flow) (s₂ : Shared) : Prop :=
  match f with
  | .ret v => Q (.ret v) s₂
  | .brk => Q .next s₂
  | _ => EndG h₀ L J I oI s₁ s₂
def NextG (h₀ : Heap) (L : Addr) (J : (Str → Option Value) → Ledger → Prop) (I : Addr) (oI : Obj) (s₁ : Shared) (f : Flow) (s₂ : Shared) : Prop := f = .next ∧ EndG h₀ L J I oI s₁ s₂

theorem iter_rngG {r : Addr} {a b : Int} {t u v : Tok} {n : Nat} {m₀ : Str → Option Value} {news : Ledger} (J : Nat → (Str → Option Value) → Ledger → Prop)
    (hh : A.handled = none) (hr : IsRange s.heap r a b 1 t u v) (hsmall : Builtin.Range.small a b 1 = true) (hn : Builtin.Range.rangeSize a b 1 = (n : Int)) (F : Fr h₀ env.locals s.heap m₀) (N : News h₀ env.locals s.heap news) (hj : J 0 m₀ news)
    (turn : ∀ i t I oI m₁ news₁ h tk, i < n → (∀ p ∈ news₁, p.1 ≠ I) → J i m₁ news₁ → Fr h₀ env.locals h (fun y => if y = x then some (.int (a + i) t) else m₁ y) → News h₀ env.locals h ((I, oI) :: news₁) →
      ∀ Qt : Flow → Shared → Prop, (∀ f s₂, PostG h₀ env.locals (J (i + 1)) I oI { s with heap := h, toks := tk } Q f s₂ → Qt f s₂) →
      wpAny (model prog w) A (execs body env) Qt E { s with heap := h, toks := tk })
    (done : ∀ m₁ news₁ h tk, J n m₁ news₁ → Fr h₀ env.locals h m₁ → News h₀ env.locals h news₁ → Q .next { s with heap := h, toks := tk }) :
    wpAny (model prog w) A (pyIter (.ref r)) (fun it s₂ => LoopAtV prog w A h₀ env x body Q E it s₂) E s := by
  refine wpAny_pyIter_range hr hsmall ?_
  have hI₀ : h₀.get? s.heap.objs.size = none := next_is_new F
  refine LoopV_i _ [s.heap.objs.size] [s.heap.objs.size] n m₀ news J rfl (Walks.range hh _ a 1 n).bound ?_ ?_ ?_
    (by show IsRangeIter _ _ _ _ _; rw [hn]; simpa using Heap.get?_push_size _ rfl) (F.push _) (fun p hp => ⟨Heap.get?_push_of_some _ (N p hp).1, (N p hp).2⟩) hj ?_ ?_
  · intro hm
    exact absurd F.ns.lt ((List.mem_singleton.mp hm) ▸ Nat.lt_irrefl _)
  · intro b hb
    rw [List.mem_singleton.mp hb]
    exact hI₀
  · intro p hp hI
    exact absurd (Heap.lt_size (N p hp).1) ((List.mem_singleton.mp hI) ▸ Nat.lt_irrefl _)
  · rintro i v m₁ news₁ s₁ own ⟨hh', tk', rfl⟩ hi ⟨_, t, rfl⟩ hJ hoff hown hget hall hst F₁ N₁
    rw [show a + (i : Int) * 1 = a + i by (first | lia | omega)] at F₁
    obtain ⟨oI, hst'⟩ : ∃ oI, hh'.get? s.heap.objs.size = some oI := ⟨_, hst⟩
    have hin := hall _ (List.mem_singleton.mpr rfl) hI₀ _ hst'
    refine wpAny_mono (turn i t s.heap.objs.size oI m₁ news₁ hh' tk' hi (fun p hp => fun e => hoff p hp (List.mem_singleton.mpr e)) hJ F₁ (fun p hp => by
      rcases List.mem_cons.mp hp with rfl | hp
      · exact N₁ _ (List.mem_append_left _ hin)
      · exact N₁ _ (List.mem_append_right _ hp)) _ (fun _ _ h => h)) (fun f s₂ p => ?_) fun _ _ e => e
    have fin : EndG h₀ env.locals (J (i + 1)) s.heap.objs.size oI { s with heap := hh', toks := tk' } s₂ →
        LoopStepU h₀ env.locals [s.heap.objs.size] own (J (i + 1)) { s with heap := hh', toks := tk' } .next s₂ := by
      rintro ⟨h', tk, m', nx, e, F', N', ho, hj'⟩
      refine ⟨rfl, h', tk, m', nx, e, F', fun p hp => ?_, fun p hp hI => ho p hp (List.mem_singleton.mp hI), hj'⟩
      rcases List.mem_append.mp hp with hp | hp
      · have e1 : p.1 = s.heap.objs.size := List.mem_singleton.mp (hown p hp)
        have e2 := hget p hp
        rw [e1] at e2
        have e3 := hst'.symm.trans e2
        have e4 : p = (s.heap.objs.size, oI) := Prod.ext e1 (Option.some.inj e3).symm
        rw [e4]
        exact N' _ (.head _)
      · exact N' _ (.tail _ hp)
    cases f with
    | ret v => exact .ret p
    | brk => exact .brk p
    | next => exact .next (fin p)
    | cont => exact .cont (fin p)
  · rintro h' tk m' news' F' N' _ hJ
    exact done m' news' h' tk hJ F' N'
theorem iter_rngT {r : Addr} {a b : Int} {t u v : Tok} {n : Nat} {m₀ : Str → Option Value} {news : Ledger} (J : Nat → (Str → Option Value) → Ledger → Prop) (hgo : ∀ it v, letOwnedTupleGo target it v = pure ())
    (hh : A.handled = none) (hr : IsRange s.heap r a b 1 t u v) (hsmall : Builtin.Range.small a b 1 = true) (hn : Builtin.Range.rangeSize a b 1 = (n : Int)) (F : Fr h₀ env.locals s.heap m₀) (N : News h₀ env.locals s.heap news) (hj : J 0 m₀ news)
    (turn : ∀ i t I oI m₁ news₁ (s₁ : Shared), i < n → (∀ p ∈ news₁, p.1 ≠ I) → J i m₁ news₁ → Fr h₀ env.locals s₁.heap m₁ → News h₀ env.locals s₁.heap ((I, oI) :: news₁) →
      ∀ Qt : Flow → Shared → Prop, (∀ f s₂, NextG h₀ env.locals (J (i + 1)) I oI s₁ f s₂ → Qt f s₂) →
      wpAny (model prog w) A (assign target env (.int (a + i) t)) (fun _ s₃ => wpAny (model prog w) A (execs body env) Qt E s₃) E s₁)
    (done : ∀ m₁ news₁ h tk, J n m₁ news₁ → Fr h₀ env.locals h m₁ → News h₀ env.locals h news₁ → Q .next { s with heap := h, toks := tk }) :
    wpAny (model prog w) A (pyIter (.ref r)) (fun it s₂ => LoopAtT prog w A h₀ env target body Q E it s₂) E s := by
  refine wpAny_pyIter_range hr hsmall ?_
  have hI₀ : h₀.get? s.heap.objs.size = none := next_is_new F
  refine LoopT_i _ [s.heap.objs.size] [s.heap.objs.size] n m₀ news J rfl (Walks.range hh _ a 1 n).bound ?_ ?_ ?_
    (by show IsRangeIter _ _ _ _ _; rw [hn]; simpa using Heap.get?_push_size _ rfl) (F.push _) (fun p hp => ⟨Heap.get?_push_of_some _ (N p hp).1, (N p hp).2⟩) (fun i s' v Q' st hQ' => by rw [hgo]; exact wpAny_pure hQ') hj ?_ ?_
  · intro hm
    exact absurd F.ns.lt ((List.mem_singleton.mp hm) ▸ Nat.lt_irrefl _)
  · intro b hb
    rw [List.mem_singleton.mp hb]
    exact hI₀
  · intro p hp hI
    exact absurd (Heap.lt_size (N p hp).1) ((List.mem_singleton.mp hI) ▸ Nat.lt_irrefl _)
  · rintro i v m₁ news₁ s₁ own hi ⟨_, t, rfl⟩ hJ hoff hown hget hall hst F₁ N₁
    rw [show a + (i : Int) * 1 = a + i by (first | lia | omega)]
    obtain ⟨oI, hst'⟩ : ∃ oI, s₁.heap.get? s.heap.objs.size = some oI := ⟨_, hst⟩
    have hin := hall _ (List.mem_singleton.mpr rfl) hI₀ _ hst'
    refine wpAny_mono (turn i t s.heap.objs.size oI m₁ news₁ s₁ hi (fun p hp => fun e => hoff p hp (List.mem_singleton.mpr e)) hJ F₁ (fun p hp => by
      rcases List.mem_cons.mp hp with rfl | hp
      · exact N₁ _ (List.mem_append_left _ hin)
      · exact N₁ _ (List.mem_append_right _ hp)) _ (fun _ _ h => h)) (fun _ s₂ p => wpAny_mono p (fun f s₃ q => ?_) fun _ _ e => e) fun _ _ e => e
    obtain ⟨rfl, h', tk, m', nx, e, F', N', ho, hj'⟩ := q
    refine ⟨rfl, h', tk, m', nx, e, F', fun p hp => ?_, fun p hp hI => ho p hp (List.mem_singleton.mp hI), hj'⟩
    rcases List.mem_append.mp hp with hp | hp
    · have e1 : p.1 = s.heap.objs.size := List.mem_singleton.mp (hown p hp)
      have e2 := hget p hp
      rw [e1] at e2
      have e3 := hst'.symm.trans e2
      have e4 : p = (s.heap.objs.size, oI) := Prod.ext e1 (Option.some.inj e3).symm
      rw [e4]
      exact N' _ (.head _)
    · exact N' _ (.tail _ hp)
  · rintro h' tk m' news' F' N' _ hJ
    exact done m' news' h' tk hJ F' N'
theorem iter_valTG {l : Addr} {vs : List Value} {nn : Nat} {m₀ : Str → Option Value} {news : Ledger} (J : Nat → (Str → Option Value) → Ledger → Prop)
    (hh : A.handled = none) (hl : (l, W.listOf vs.toArray nn) ∈ news) (F : Fr h₀ env.locals s.heap m₀) (N : News h₀ env.locals s.heap news) (hj : J 0 m₀ news)
    (turn : ∀ i v I oI m₁ news₁ (s₁ : Shared), vs[i]? = some v → (∀ p ∈ news₁, p.1 ≠ I) → (l, W.listOf vs.toArray nn) ∈ news₁ → J i m₁ news₁ → Fr h₀ env.locals s₁.heap m₁ → News h₀ env.locals s₁.heap ((I, oI) :: news₁) →
      ∀ Qt : Flow → Shared → Prop, (∀ f s₂, NextG h₀ env.locals (fun m' nx => (l, W.listOf vs.toArray nn) ∈ nx ∧ J (i + 1) m' nx) I oI s₁ f s₂ → Qt f s₂) →
      wpAny (model prog w) A (assign target env v) (fun _ s₃ => wpAny (model prog w) A (execs body env) Qt E s₃) E s₁)
    (done : ∀ m₁ news₁ h tk, (l, W.listOf vs.toArray nn) ∈ news₁ → J vs.length m₁ news₁ → Fr h₀ env.locals h m₁ → News h₀ env.locals h news₁ → Q .next { s with heap := h, toks := tk }) :
    wpAny (model prog w) A (pyIter (.ref l)) (fun it s₂ => LoopAtT prog w A h₀ env target body Q E it s₂) E s := by
  have hol : s.heap.get? l = some (W.listOf vs.toArray nn) := (N _ hl).1
  have hls : s.heap.IsList l vs.toArray := ⟨_, hol, rfl, nn, rfl⟩
  have hne : l ≠ s.heap.objs.size := Nat.ne_of_lt (Heap.lt_size hol)
  have hI₀ : h₀.get? s.heap.objs.size = none := next_is_new F
  refine wpAny_pyIter_list hls ?_
  have WL := Walks.list (prog := prog) (w := w) hh s.heap.objs.size l hne vs.toArray
  have hlen : vs.toArray.size = vs.length := by simp
  rw [hlen] at WL
  refine LoopT_i _ _ _ vs.length m₀ news (fun i m nx => (l, W.listOf vs.toArray nn) ∈ nx ∧ J i m nx) rfl WL ?_ ?_ (new_off N rfl)
    ⟨⟨_, Heap.get?_push_size _ rfl, rfl, rfl⟩, hls.at fun o e => Heap.get?_push_of_some _ e⟩ (F.push _) (fun p hp => ⟨Heap.get?_push_of_some _ (N p hp).1, (N p hp).2⟩) (fun i s' v Q' st hQ' => letGo_listiter st.1 hQ') ⟨hl, hj⟩ ?_ ?_
  · intro hm
    rcases List.mem_cons.mp hm with e | hm
    · exact absurd F.ns.lt (e ▸ Nat.lt_irrefl _)
    · exact (N _ hl).2.1 ((List.mem_singleton.mp hm).symm)
  · intro b hb
    rw [List.mem_singleton.mp hb]
    exact hI₀
  · rintro i v m₁ news₁ s₁ own hi hP ⟨hl₁, hJ⟩ hoff hown hget hall hst F₁ N₁
    have hP' : vs[i]? = some v := by simpa using hP
    have hlo : s₁.heap.get? l = some (W.listOf vs.toArray nn) := (N₁ _ (List.mem_append.mpr (.inr hl₁))).1
    obtain ⟨oI, hst', _, _⟩ := hst.1
    have hin := hall _ (.head _) hI₀ _ hst'
    refine wpAny_mono (turn i v s.heap.objs.size oI m₁ news₁ s₁ hP' (fun p hp e => hoff p hp (List.mem_singleton.mpr e)) hl₁ hJ F₁ (fun p hp => by
      rcases List.mem_cons.mp hp with rfl | hp
      · exact N₁ _ (List.mem_append_left _ hin)
      · exact N₁ _ (List.mem_append_right _ hp)) _ (fun _ _ h => h)) (fun _ s₂ p => wpAny_mono p (fun f s₃ q => ?_) fun _ _ e => e) fun _ _ e => e
    obtain ⟨rfl, h', tk, m', nx, e, F', N', ho, hm⟩ := q
    refine ⟨rfl, h', tk, m', nx, e, F', fun p hp => ?_, fun p hp hI => ho p hp (List.mem_singleton.mp hI), hm⟩
    rcases List.mem_append.mp hp with hp | hp
    · have e2 := hget p hp
      rcases List.mem_cons.mp (hown p hp) with e1 | e1
      · rw [e1] at e2
        have e4 : p = (s.heap.objs.size, oI) := Prod.ext e1 (Option.some.inj (hst'.symm.trans e2)).symm
        rw [e4]
        exact N' _ (.head _)
      · have e1 := List.mem_singleton.mp e1
        rw [e1] at e2
        have e4 : p = (l, W.listOf vs.toArray nn) := Prod.ext e1 (Option.some.inj (hlo.symm.trans e2)).symm
        rw [e4]
        exact N' _ (.tail _ hm.1)
    · exact N' _ (.tail _ hp)
  · rintro h' tk m' news' F' N' _ ⟨hl', hJ⟩
    exact done m' news' h' tk hl' hJ F' N'
end
end Mine
end
/-! part Dp53 -/
section
open PySem PySem.W PyProof.Rows
namespace Mine
def pref (sizes : List Nat) (i : Nat) : Nat := (sizes.take i).sum
def fitsIn (sizes : List Nat) (w b e : Nat) : Prop := pref sizes e ≤ w + pref sizes b
/-- the fewest rows, as the program finds them -/
def Dp (sizes : List Nat) (w : Nat) (fs : List Int) : Prop :=
  fs.getD 0 0 = 0 ∧ ∀ e, 1 ≤ e → e < fs.length → (∃ b, b < e ∧ fitsIn sizes w b e ∧ fs.getD e 0 = 1 + fs.getD b 0) ∧ ∀ b, b < e → fitsIn sizes w b e → fs.getD e 0 ≤ 1 + fs.getD b 0
theorem Dp.zero (sizes : List Nat) (w : Nat) : Dp sizes w [0] := ⟨rfl, fun e h1 h2 => by simp at h2; (first | lia | omega)⟩
theorem getD_snoc_lt {fs : List Int} {x : Int} {i : Nat} (h : i < fs.length) : (fs ++ [x]).getD i 0 = fs.getD i 0 := by
  rw [List.getD_eq_getElem?_getD, List.getD_eq_getElem?_getD, List.getElem?_append_left h]
theorem getD_snoc_at {fs : List Int} {x : Int} {i : Nat} (h : i = fs.length) : (fs ++ [x]).getD i 0 = x := by
  subst h
  rw [List.getD_eq_getElem?_getD, List.getElem?_append_right (Nat.le_refl _), Nat.sub_self]; rfl
theorem Dp.step {sizes : List Nat} {w : Nat} {fs : List Int} (h : Dp sizes w fs) (hl : 1 ≤ fs.length) {M : Int} (h1 : ∃ b, b < fs.length ∧ fitsIn sizes w b fs.length ∧ M = fs.getD b 0) (h2 : ∀ b, b < fs.length → fitsIn sizes w b fs.length → M ≤ fs.getD b 0) : Dp sizes w (fs ++ [1 + M]) := by
  refine ⟨by rw [getD_snoc_lt hl]; exact h.1, fun e he1 he2 => ?_⟩
  rw [List.length_append, List.length_cons, List.length_nil] at he2
  by_cases he : e < fs.length
  · obtain ⟨⟨b, hb, hf, hq⟩, hall⟩ := h.2 e he1 he
    refine ⟨⟨b, hb, hf, ?_⟩, fun b hb hf => ?_⟩
    · rw [getD_snoc_lt he, getD_snoc_lt (by (first | lia | omega))]; exact hq
    · rw [getD_snoc_lt he, getD_snoc_lt (by (first | lia | omega))]; exact hall b hb hf
  · have e1 : e = fs.length := by (first | lia | omega)
    subst e1
    obtain ⟨b, hb, hf, hq⟩ := h1
    refine ⟨⟨b, hb, hf, ?_⟩, fun b hb hf => ?_⟩
    · rw [getD_snoc_at rfl, getD_snoc_lt hb, hq]
    · rw [getD_snoc_at rfl, getD_snoc_lt hb]
      have := h2 b hb hf
      (first | lia | omega)
theorem pref_succ {sizes : List Nat} {i x : Nat} (h : sizes[i]? = some x) : pref sizes (i + 1) = pref sizes i + x := by
  unfold pref
  rw [List.take_add_one, h]
  simp
theorem pref_mono {sizes : List Nat} {i j : Nat} (h : i ≤ j) : pref sizes i ≤ pref sizes j := by
  induction j with
  | zero => rw [Nat.le_zero.mp h]; exact Nat.le_refl _
  | succ j ih =>
    rcases Nat.lt_or_ge i (j + 1) with h1 | h1
    · refine Nat.le_trans (ih (by (first | lia | omega))) ?_
      unfold pref
      rw [List.take_add_one]
      simp
    · rw [Nat.le_antisymm h h1]; exact Nat.le_refl _
theorem cut_sum (sizes : List Nat) (b e : Nat) (hb : b ≤ e) (he : e ≤ sizes.length) : (((sizes.map fun n : Nat => (n : Int)).drop (b : Int).toNat).take (min (e : Int).toNat (sizes.map fun n : Nat => (n : Int)).length - (b : Int).toNat)).sum = (pref sizes e : Int) - pref sizes b := by
  have h1 : ∀ l : List Nat, (l.map fun n : Nat => (n : Int)).sum = ((l.sum : Nat) : Int) := by
    intro l
    induction l with
    | nil => rfl
    | cons a l ih => simp only [List.map_cons, List.sum_cons, ih, Int.natCast_add]
  rw [List.length_map, Int.toNat_natCast, Int.toNat_natCast, Nat.min_eq_left he, ← List.map_drop, ← List.map_take, h1]
  have h2 : sizes.take e = sizes.take b ++ (sizes.drop b).take (e - b) := by
    have := List.take_append_drop b (sizes.take e)
    rw [List.take_take, Nat.min_eq_left hb, List.drop_take] at this
    exact this.symm
  have h3 : pref sizes e = pref sizes b + ((sizes.drop b).take (e - b)).sum := by
    unfold pref
    rw [h2, List.sum_append]
  (first | lia | omega)
section
variable {prog : Program} {w : World} {A : Around} {E : Value → Shared → Prop} {s : Shared} {h₀ : Heap} {L : Addr} {news : List (Addr × Obj)} {Q : Value → Shared → Prop} {value slice : PySem.Expr} {u : Tok}
theorem item_I {l : Addr} {vs : List Value} {fs : List Int} {n : Nat} {k : Int} (N : News h₀ L s.heap news) (hm : (l, W.listOf vs.toArray n) ∈ news) (hv : IntsAre vs fs) (h0 : 0 ≤ k) (hk : k < fs.length) (hz : fs.length ≤ 1000000)
    (h : ∀ t', Q (.int (fs.getD k.toNat 0) t') s)
    (hs : subscripted slice false (.ref l) (.int k u) = operate [.ref l, .int k u] (getItem (.ref l) (.int k u)) := by with_unfolding_all rfl) :
    wpAny (model prog w) A (subscriptTail value slice (.ref l) (.int k u)) Q E s := by
  have hlt : k.toNat < fs.length := by (first | lia | omega)
  obtain ⟨t, ht⟩ := IntsAre.get hv k.toNat (fs.getD k.toNat 0) (by rw [List.getD_eq_getElem?_getD, List.getElem?_eq_getElem hlt]; rfl)
  have hl := News.isList N hm
  exact tail_any hl.typeIs slot_list_getitem.lookup (wpAny_getItem_list hl h0 (by (first | lia | omega)) (by simpa using ht) (h t)) hs
theorem sum_X {l : Addr} {vs : List Value} {ns : List Int} {n : Nat} {m : Str → Option Value} (hh : A.handled = none) (F : Fr h₀ L s.heap m) (N : News h₀ L s.heap news) (hm : (l, W.listOf vs.toArray n) ∈ news) (hi : IntsAre vs ns)
    (h : ∀ h' tk t', Fr h₀ L h' m → News h₀ L h' news → Q (.int ns.sum t') { s with heap := h', toks := tk }) :
    wpAny (model prog w) A (call (.builtin "sum") [.ref l]) Q E s := sumK hh F N (News.isList N hm) hi h
end
end Mine
end
/-! part Few53 -/
section
/-! the greedy rows are the fewest -/
namespace Mine
def gstep (w : Nat) (p : Nat × Nat) (x : Nat) : Nat × Nat := if 0 < p.2 ∧ w < p.2 + x then (p.1 + 1, x) else (p.1, p.2 + x)
def gst (w : Nat) (sizes : List Nat) (e : Nat) : Nat × Nat := (sizes.take e).foldl (gstep w) (0, 0)
def gn (w : Nat) (sizes : List Nat) (e : Nat) : Nat := (gst w sizes e).1 + if (gst w sizes e).2 = 0 then 0 else 1
theorem gst_succ {w : Nat} {sizes : List Nat} {e x : Nat} (h : sizes[e]? = some x) : gst w sizes (e + 1) = gstep w (gst w sizes e) x := by
  unfold gst
  rw [List.take_add_one, h, List.foldl_append]; rfl
/-- what holds behind the e-th text -/
def GI (w : Nat) (sizes : List Nat) (e : Nat) : Prop :=
  ∃ s, s < e ∧ (gst w sizes e).2 + pref sizes s = pref sizes e ∧ gn w sizes s = (gst w sizes e).1 ∧ (∀ b, s < b → b ≤ e → gn w sizes b = (gst w sizes e).1 + 1) ∧
    (∀ b, b ≤ e → gn w sizes b < (gst w sizes e).1 → w + pref sizes b < pref sizes e) ∧ 1 ≤ (gst w sizes e).2 ∧ (gst w sizes e).2 ≤ w
theorem gi_step {w : Nat} {sizes : List Nat} (hs : ∀ n ∈ sizes, 1 ≤ n ∧ n ≤ w) : ∀ e, 1 ≤ e → e ≤ sizes.length → GI w sizes e := by
  intro e
  induction e with
  | zero => intro h; (first | lia | omega)
  | succ e ih =>
    intro _ he
    have hx := List.getElem?_eq_getElem (show e < sizes.length by (first | lia | omega))
    have hx2 := hs _ (List.getElem_mem (show e < sizes.length by (first | lia | omega)))
    generalize sizes[e] = x at hx hx2
    have hst := gst_succ (w := w) hx
    have hp := pref_succ hx
    rcases Nat.eq_zero_or_pos e with h0 | h0
    · subst h0
      have e0 : gst w sizes 0 = (0, 0) := rfl
      rw [e0] at hst
      have hst2 : gst w sizes (0 + 1) = (0, x) := by rw [hst]; unfold gstep; simp
      have p0 : pref sizes 0 = 0 := rfl
      have g0 : gn w sizes 0 = 0 := rfl
      have g1 : gn w sizes (0 + 1) = 1 := by unfold gn; rw [hst2]; simp only; rw [if_neg (by (first | lia | omega))]
      refine ⟨0, by (first | lia | omega), ?_, ?_, ?_, ?_, ?_, ?_⟩
      · rw [hst2, p0, hp, p0]; simp only; (first | lia | omega)
      · rw [hst2, g0]
      · intro b hb hb2
        have : b = 0 + 1 := by (first | lia | omega)
        subst this
        rw [hst2, g1]
      · intro b hb hlt
        rw [hst2] at hlt
        simp only at hlt
        (first | lia | omega)
      · rw [hst2]; simp only; (first | lia | omega)
      · rw [hst2]; simp only; (first | lia | omega)
    · obtain ⟨s, hse, hc, hgs, hrow, hfar, hc1, hcw⟩ := ih h0 (by (first | lia | omega))
      generalize hp1 : (gst w sizes e).1 = R at *
      generalize hp2 : (gst w sizes e).2 = c at *
      have hpe : gst w sizes e = (R, c) := by rw [← hp1, ← hp2]
      rw [hpe] at hst
      unfold gstep at hst
      simp only at hst
      by_cases hb : 0 < c ∧ w < c + x
      · rw [if_pos hb] at hst
        have g1 : gn w sizes (e + 1) = R + 1 + 1 := by unfold gn; rw [hst]; simp only; rw [if_neg (by (first | lia | omega))]
        refine ⟨e, by (first | lia | omega), ?_, ?_, ?_, ?_, ?_, ?_⟩
        · rw [hst, hp]; simp only; (first | lia | omega)
        · rw [hst]; exact hrow e hse (Nat.le_refl _)
        · intro b hb1 hb2
          have : b = e + 1 := by (first | lia | omega)
          subst this
          rw [hst]; exact g1
        · intro b hb1 hlt
          rw [hst] at hlt
          simp only at hlt
          rw [hp]
          by_cases hbe : b ≤ e
          · by_cases hbs : s < b
            · have := hrow b hbs hbe; (first | lia | omega)
            · have hm := pref_mono (sizes := sizes) (Nat.not_lt.mp hbs)
              by_cases hlt2 : gn w sizes b < R
              · have := hfar b hbe hlt2; (first | lia | omega)
              · (first | lia | omega)
          · have : b = e + 1 := by (first | lia | omega)
            subst this
            (first | lia | omega)
        · rw [hst]; simp only; (first | lia | omega)
        · rw [hst]; simp only; (first | lia | omega)
      · rw [if_neg hb] at hst
        have g1 : gn w sizes (e + 1) = R + 1 := by unfold gn; rw [hst]; simp only; rw [if_neg (by (first | lia | omega))]
        refine ⟨s, by (first | lia | omega), ?_, ?_, ?_, ?_, ?_, ?_⟩
        · rw [hst, hp]; simp only; (first | lia | omega)
        · rw [hst]; exact hgs
        · intro b hb1 hb2
          rw [hst]
          simp only
          by_cases hbe : b ≤ e
          · exact hrow b hb1 hbe
          · have : b = e + 1 := by (first | lia | omega)
            subst this
            exact g1
        · intro b hb1 hlt
          rw [hst] at hlt
          simp only at hlt
          rw [hp]
          by_cases hbe : b ≤ e
          · have := hfar b hbe hlt; (first | lia | omega)
          · have : b = e + 1 := by (first | lia | omega)
            subst this
            (first | lia | omega)
        · rw [hst]; simp only; (first | lia | omega)
        · rw [hst]; simp only; (first | lia | omega)
theorem gn_dp {w : Nat} {sizes : List Nat} {fs : List Int} (hs : ∀ n ∈ sizes, 1 ≤ n ∧ n ≤ w) (hD : Dp sizes w fs) (hl : fs.length = sizes.length + 1) : ∀ e, e ≤ sizes.length → fs.getD e 0 = (gn w sizes e : Int) := by
  intro e
  induction e using Nat.strongRecOn with
  | ind e ih =>
    intro he
    rcases Nat.eq_zero_or_pos e with h0 | h0
    · subst h0; rw [hD.1]; rfl
    · obtain ⟨s, hse, hc, hgs, hrow, hfar, hc1, hcw⟩ := gi_step hs e h0 he
      have hge := hrow e hse (Nat.le_refl _)
      obtain ⟨⟨b, hb, hf, hq⟩, hall⟩ := hD.2 e h0 (by (first | lia | omega))
      have hs1 := hall s hse (by unfold fitsIn; (first | lia | omega))
      rw [ih s hse (by (first | lia | omega)), hgs] at hs1
      rw [ih b hb (by (first | lia | omega))] at hq
      unfold fitsIn at hf
      have hnb : ¬ gn w sizes b < (gst w sizes e).1 := fun hlt => by have := hfar b (by (first | lia | omega)) hlt; (first | lia | omega)
      rw [hge]
      (first | lia | omega)

def greedy (w : Nat) (ts : List Txt0) : Pg := ts.foldl (writeText w) ([], [])
theorem greedy_lens {w : Nat} {ts : List Txt0} (hw : 0 < w) (h : ∀ t ∈ ts, t.length ≤ w) : ((greedy w ts).1.length, (greedy w ts).2.length) = gst w (ts.map List.length) ts.length := by
  have step : ∀ (p : Pg) (t : Txt0), t.length ≤ w → ((writeText w p t).1.length, (writeText w p t).2.length) = gstep w (p.1.length, p.2.length) t.length := by
    intro p t ht
    have hb := broken_len w p t
    have hc := chop_none (w := w) ht
    unfold writeText gstep
    simp only [List.length_append, hb.1, hb.2, hc.1, hc.2]
    by_cases g : 0 < p.2.length ∧ w < p.2.length + t.length
    · rw [if_pos g, if_pos ⟨hw, g⟩, if_pos ⟨hw, g⟩]; simp
    · rw [if_neg g, if_neg (fun g2 => g g2.2), if_neg (fun g2 => g g2.2)]; simp
  have key : ∀ (ts : List Txt0) (p : Pg), (∀ t ∈ ts, t.length ≤ w) → ((ts.foldl (writeText w) p).1.length, (ts.foldl (writeText w) p).2.length) = (ts.map List.length).foldl (gstep w) (p.1.length, p.2.length) := by
    intro ts
    induction ts with
    | nil => intro p _; rfl
    | cons t ts ih =>
      intro p h
      rw [List.foldl_cons, List.map_cons, List.foldl_cons, ih _ (fun u hu => h u (.tail _ hu)), ← step p t (h t (.head _))]
  unfold greedy gst
  rw [key ts ([], []) h]
  have e : (ts.map List.length).take ts.length = ts.map List.length := by rw [List.take_of_length_le]; simp
  rw [e]
  rfl
theorem allRows_count (p : Pg) : (allRows p).length = p.1.length + if p.2.length = 0 then 0 else 1 := by
  unfold allRows
  cases h : p.2 with
  | nil => simp
  | cons a l => simp
theorem rows_fewest {w : Nat} {ts : List Txt0} {fs : List Int} (hw : 0 < w) (h : ∀ t ∈ ts, 1 ≤ t.length ∧ t.length ≤ w) (hD : Dp (ts.map List.length) w fs) (hl : fs.length = (ts.map List.length).length + 1) :
    ((allRows (greedy w ts)).length : Int) = fs.getD (ts.map List.length).length 0 := by
  rw [gn_dp (fun n hn => by obtain ⟨t, ht, rfl⟩ := List.mem_map.mp hn; exact h t ht) hD hl _ (Nat.le_refl _), allRows_count]
  have e := greedy_lens hw (fun t ht => (h t ht).2)
  have e1 := congrArg Prod.fst e
  have e2 := congrArg Prod.snd e
  simp only at e1 e2
  unfold gn
  rw [List.length_map, ← e1, ← e2]
def rowParts (ts : List Txt0) : List Part := (ts.map fun t => [Part.text t, Part.glue]).flatten
theorem rowParts_snoc (ts : List Txt0) (t : Txt0) : rowParts (ts ++ [t]) = rowParts ts ++ [Part.text t, Part.glue] := by
  unfold rowParts
  rw [List.map_append, List.flatten_append]
  simp
theorem rowParts_len (ts : List Txt0) : (rowParts ts).length = 2 * ts.length := by
  unfold rowParts
  induction ts with
  | nil => rfl
  | cons t ts ih => simp only [List.map_cons, List.flatten_cons, List.length_append, List.length_cons, List.length_nil] at ih ⊢; (first | lia | omega)
theorem rowParts_greedy (z w : Nat) (ts : List Txt0) : writeParts0 z w ([], []) (rowParts ts) = greedy w ts := by
  have key : ∀ (ts : List Txt0) (p : Pg), writeParts0 z w p (rowParts ts) = ts.foldl (writeText w) p := by
    intro ts
    induction ts with
    | nil => intro p; rfl
    | cons t ts ih =>
      intro p
      rw [List.foldl_cons, ← ih]
      rfl
  exact key ts _
theorem rowParts_ends {ts : List Txt0} (h : ts ≠ []) : endsIn (rowParts ts) = false := by
  rcases List.eq_nil_or_concat ts with h1 | ⟨l, t, rfl⟩
  · exact absurd h1 h
  · rw [List.concat_eq_append, rowParts_snoc, show rowParts l ++ [Part.text t, Part.glue] = (rowParts l ++ [Part.text t]) ++ [Part.glue] by simp, endsIn_snoc]; rfl
theorem rowParts_written (z w : Nat) {ts : List Txt0} (h : ts ≠ []) : writeParts z w ([], []) (rowParts ts) = greedy w ts := by
  unfold writeParts
  rw [rowParts_ends h, rowParts_greedy]
  rfl
end Mine
end
/-! part Parts53 -/
section
open PySem PySem.W PyProof.Rows
namespace Mine
def noB (l : Txt0) : Txt0 := l.filter (· != 32)
theorem noB_app (a b : Txt0) : noB (a ++ b) = noB a ++ noB b := List.filter_append ..
theorem noB_rep (n : Nat) : noB (List.replicate n 32) = [] := by
  unfold noB
  rw [List.filter_eq_nil_iff]
  intro a ha
  rw [List.eq_of_mem_replicate ha]
  decide
theorem noB_self {l : Txt0} (h : ∀ c ∈ l, c ≠ 32) : noB l = l := by
  unfold noB
  rw [List.filter_eq_self]
  intro a ha
  simpa using h a ha
def flat (p : Pg) : Txt0 := p.1.flatten ++ p.2
theorem flat_end (p : Pg) : flat (endRow p) = flat p := by
  unfold flat endRow
  simp
theorem flat_row (p : Pg) (l : Txt0) : flat (p.1, p.2 ++ l) = flat p ++ l := by
  unfold flat
  simp
theorem flat_text (w : Nat) (p : Pg) (t : Txt0) : flat (writeText w p t) = flat p ++ t := written_flat w p t false
/-- what holds of the page behind each turn -/
structure PtOk (w : Nat) (p : Pg) (ts : Txt0) (n : Nat) : Prop where
  signs : noB (flat p) = ts
  wide : 0 < w → Within w p
  long : (flat p).length ≤ n
  rows : p.1.length ≤ n
theorem PtOk.nil (w : Nat) : PtOk w ([], []) [] 0 := ⟨rfl, fun _ => ⟨fun _ h => (nomatch h), Nat.zero_le _⟩, Nat.le_refl _, Nat.le_refl _⟩
theorem PtOk.row {w : Nat} {p : Pg} {ts : Txt0} {n : Nat} (h : PtOk w p ts n) : p.2.length ≤ n := by
  have := h.long
  unfold flat at this
  rw [List.length_append] at this
  (first | lia | omega)
theorem PtOk.end {w : Nat} {p : Pg} {ts : Txt0} {n : Nat} (h : PtOk w p ts n) : PtOk w (endRow p) ts (n + 1) := by
  refine ⟨by rw [flat_end]; exact h.signs, fun g => endRow_within (h.wide g), by rw [flat_end]; exact Nat.le_succ_of_le h.long, ?_⟩
  have := h.rows
  unfold endRow
  simp only [List.length_append, List.length_cons, List.length_nil]
  (first | lia | omega)
theorem PtOk.mono {w : Nat} {p : Pg} {ts : Txt0} {n n' : Nat} (h : PtOk w p ts n) (hn : n ≤ n') : PtOk w p ts n' := ⟨h.signs, h.wide, Nat.le_trans h.long hn, Nat.le_trans h.rows hn⟩
/-- blanks behind the row -/
theorem PtOk.pad {w : Nat} {p : Pg} {ts : Txt0} {n k : Nat} (h : PtOk w p ts n) (hw : 0 < w → p.2.length + k ≤ w) : PtOk w (p.1, p.2 ++ List.replicate k 32) ts (n + k) := by
  refine ⟨by rw [flat_row, noB_app, noB_rep, List.append_nil]; exact h.signs, fun g => ⟨(h.wide g).1, ?_⟩, ?_, Nat.le_trans h.rows (Nat.le_add_right _ _)⟩
  · show (p.2 ++ _).length ≤ w
    rw [List.length_append, List.length_replicate]
    exact hw g
  · rw [flat_row, List.length_append, List.length_replicate]
    exact Nat.add_le_add_right h.long k
theorem PtOk.text {w : Nat} {p : Pg} {ts : Txt0} {n : Nat} (h : PtOk w p ts n) (t : Txt0) : PtOk w (writeText w p t) (ts ++ noB t) (n + 1 + t.length) := by
  refine ⟨by rw [flat_text, noB_app, h.signs], fun g => writeText_within g (h.wide g), ?_, ?_⟩
  · rw [flat_text, List.length_append]
    have := h.long
    (first | lia | omega)
  · have := writeText_rows w p t
    have := h.rows
    (first | lia | omega)
theorem text_turn {w n : Nat} {rows : List Txt0} {row ts t : Txt0} (h : PtOk w (rows, row) ts n) (ht : t.length ≤ 8) (hb : ∀ c ∈ t, c ≠ 32) :
    ∃ C D, written w (rows, row) t false = (C, D) ∧ PtOk w (C, D) (ts ++ t) (n + 100) := by
  have h2 := h.text t
  rw [noB_self hb] at h2
  exact ⟨_, _, rfl, h2.mono (by (first | lia | omega))⟩
theorem parts_one (z w : Nat) (p : Pg) (q : Part) (hq : q.isText = false) : writeParts z w p [q] = writePart z w p q := by
  unfold writeParts writeParts0 endsIn
  simp only [List.foldl_cons, List.foldl_nil, hq]
  rfl
theorem zone_turn {zone w n : Nat} {rows : List Txt0} {row ts : Txt0} (h : PtOk w (rows, row) ts n) (hz : 2 ≤ zone) (hz2 : zone ≤ 7) :
    ∃ C D, writeParts zone w (rows, row) [.zone] = (C, D) ∧ PtOk w (C, D) ts (n + 100) ∧ Int.fmod (D.length : Int) (zone : Int) = 0 ∧ (0 < w → D ≠ [] → D.length + zone ≤ w) := by
  rw [parts_one _ _ _ _ rfl]
  show ∃ C D, writeZone zone w (rows, row) = (C, D) ∧ _
  unfold writeZone
  have h1 := Nat.div_add_mod row.length zone
  have h3 : (row.length / zone + 1) * zone = zone * (row.length / zone) + zone := by rw [Nat.add_mul, Nat.one_mul, Nat.mul_comm]
  have h4 := Nat.mod_lt row.length (show 0 < zone by (first | lia | omega))
  simp only
  split
  · refine ⟨_, _, rfl, h.end.mono (by (first | lia | omega)), ?_, fun _ g => absurd rfl g⟩
    exact Int.zero_fmod _
  · rename_i hc
    have hl : (row ++ List.replicate ((row.length / zone + 1) * zone - row.length) 32).length = (row.length / zone + 1) * zone := by
      rw [List.length_append, List.length_replicate]; (first | lia | omega)
    refine ⟨_, _, rfl, (h.pad fun g => ?_).mono ?_, ?_, fun g _ => ?_⟩
    · show row.length + _ ≤ w
      (first | lia | omega)
    · (first | lia | omega)
    · rw [hl]
      have e : (((row.length / zone + 1) * zone : Nat) : Int) = ((row.length / zone + 1 : Nat) : Int) * (zone : Int) := by rw [Int.natCast_mul]
      rw [e]
      exact Int.mul_fmod_left _ _
    · rw [hl]
      (first | lia | omega)
theorem tab_turn {zone w n c : Nat} {rows : List Txt0} {row ts : Txt0} (h : PtOk w (rows, row) ts n) (hc : c ≤ 50) :
    ∃ C D, writeParts zone w (rows, row) [.tab c] = (C, D) ∧ PtOk w (C, D) ts (n + 100) ∧ (0 < w → (D.length : Int) = Int.fmod (c : Int) (w : Int)) ∧ (w = 0 → D.length = c) := by
  rw [parts_one _ _ _ _ rfl]
  show ∃ C D, writeTab c w (rows, row) = (C, D) ∧ _
  have hle := within_le c w
  have h1 : 0 < w → within c w < w ∧ ((within c w : Nat) : Int) = Int.fmod (c : Int) (w : Int) := by
    intro g
    unfold within
    rw [if_pos g]
    refine ⟨Nat.mod_lt _ g, ?_⟩
    rw [Int.fmod_eq_emod_of_nonneg _ (by (first | lia | omega))]
    exact Int.natCast_emod _ _
  have h0 : w = 0 → within c w = c := by
    intro g
    unfold within
    rw [if_neg (by (first | lia | omega))]
  unfold writeTab
  simp only
  split
  · rename_i hc
    have hl : (endRow (rows, row)).2.length = 0 := rfl
    refine ⟨_, _, rfl, (h.end.pad fun g => ?_).mono ?_, fun g => ?_, fun g => ?_⟩
    · have := (h1 g).1
      (first | lia | omega)
    · (first | lia | omega)
    · rw [List.length_append, List.length_replicate, hl, Nat.sub_zero, Nat.zero_add]
      exact (h1 g).2
    · rw [List.length_append, List.length_replicate, hl, Nat.sub_zero, Nat.zero_add]
      exact h0 g
  · rename_i hc
    have hl : (row ++ List.replicate (within c w - row.length) 32).length = within c w := by
      rw [List.length_append, List.length_replicate]; (first | lia | omega)
    refine ⟨_, _, rfl, (h.pad fun g => ?_).mono ?_, fun g => ?_, fun g => ?_⟩
    · have := (h1 g).1
      show row.length + (within c w - row.length) ≤ w
      (first | lia | omega)
    · (first | lia | omega)
    · rw [hl]; exact (h1 g).2
    · rw [hl]; exact h0 g
theorem spc_turn {zone w n c : Nat} {rows : List Txt0} {row ts : Txt0} (h : PtOk w (rows, row) ts n) (hc : c ≤ 50) :
    ∃ C D, writeParts zone w (rows, row) [.spc c] = (C, D) ∧ PtOk w (C, D) ts (n + 100) ∧ (w = 0 → c ≤ D.length ∧ D.drop (D.length - c) = List.replicate c 32) := by
  rw [parts_one _ _ _ _ rfl]
  show ∃ C D, writeText w (rows, row) (List.replicate (within c w) 32) = (C, D) ∧ _
  have hle := within_le c w
  have h2 := h.text (List.replicate (within c w) 32)
  rw [noB_rep, List.append_nil, List.length_replicate] at h2
  refine ⟨_, _, rfl, h2.mono (by (first | lia | omega)), fun g => ?_⟩
  subst g
  have e : within c 0 = c := rfl
  have e2 : (writeText 0 (rows, row) (List.replicate (within c 0) 32)).2 = (broken 0 (rows, row) (List.replicate c 32)).2 ++ List.replicate c 32 := by
    rw [fit_text (.inl rfl), e]
  show c ≤ (writeText 0 (rows, row) (List.replicate (within c 0) 32)).2.length ∧ (writeText 0 (rows, row) (List.replicate (within c 0) 32)).2.drop ((writeText 0 (rows, row) (List.replicate (within c 0) 32)).2.length - c) = _
  rw [e2]
  refine ⟨by rw [List.length_append, List.length_replicate]; (first | lia | omega), ?_⟩
  rw [List.length_append, List.length_replicate, Nat.add_sub_cancel]
  exact List.drop_left ..
theorem end_parts {w n : Nat} {C : List Txt0} {D ts : Txt0} (h : PtOk w (C, D) ts n) :
    ∃ RR, allRows (C, D) = RR ∧ RR.length ≤ n + 1 ∧ RR.flatten.length ≤ n ∧ SameT (noB RR.flatten) ts ∧ (∀ r ∈ RR, r.length ≤ n) ∧ ∀ r ∈ RR, 0 < w → r.length ≤ w := by
  have e := allRows_flat (C, D)
  refine ⟨_, rfl, ?_, ?_, ?_, fun r hr => ?_, fun r hr g => allRows_within (h.wide g) r hr⟩
  · have h1 := h.rows
    have h2 : (allRows (C, D)).length ≤ C.length + 1 := by
      unfold allRows
      split <;> simp
    exact Nat.le_trans h2 (Nat.succ_le_succ h1)
  · rw [e]; exact h.long
  · rw [e]; exact h.signs
  · have h2 : r.length ≤ (allRows (C, D)).flatten.length := (List.sublist_flatten_of_mem hr).length_le
    rw [e] at h2
    exact Nat.le_trans h2 h.long
/-- striking the blanks -/
theorem strike_T (l : List Nat) : Txt.replace (T l) (PySem.Str.ofString " ") (PySem.Str.ofString "") = T (noB l) := by
  rw [T_of (Txt.replace _ _ _), T_blank, T_nil]
  exact congrArg T (replace_strikes (T l) 32)
section
variable {prog : Program} {w : World} {A : Around} {E : Value → Shared → Prop} {s : Shared} {a : List Nat} {t u v : Tok} {Q : Value → Shared → Prop}
theorem replace_X (hu : @Ne Nat u 0) (hv : @Ne Nat v 0) (huv : @Ne Nat u v) (hz : a.length ≤ 1000000) (h : ∀ t' k, Q (.str (T (noB a)) t') { s with toks := k }) :
    wpAny (model prog w) A (call (.builtin "str.replace") [.str (T a) t, .str (PySem.Str.ofString " ") u, .str (PySem.Str.ofString "") v]) Q E s :=
  SC.replaceW hu hv huv (by decide) (by rw [T_len]; (first | lia | omega)) (by decide +kernel) fun t' k => by rw [strike_T]; exact h t' k
theorem post_joinK {sep : PySem.Str} {Q : Value → Shared → Prop} : ∀ (l : List (PySem.Str × Tok)), ((Txt.join sep (l.map (·.1))).length ≤ sizeLine ∧ ∀ t' k, s.toks ≤ k → Q (.str (Txt.join sep (l.map (·.1))) t') { s with toks := k }) → (joinMade sep l).post Q s
  | [], h => ⟨h.1, h.2 _ _ (Nat.le_succ _)⟩
  | [p], h => h.2 p.2 s.toks (Nat.le_refl _)
  | _ :: _ :: _, h => ⟨h.1, h.2 _ _ (Nat.le_succ _)⟩
theorem join_listK {x : PySem.Str} {D : Addr} {items : Array Value} {ys : List PySem.Str} (hl : s.heap.IsList D items) (hi : StrsAre items.toList ys) (hok : (ys.map (·.length)).sum + ys.length * x.length ≤ 16777216)
    (h : ∀ t' k, s.toks ≤ k → Q (.str (Txt.join x ys) t') { s with toks := k }) : wpAny (model prog w) A (call (.builtin "str.join") [.str x t, .ref D]) Q E s := by
  obtain ⟨l, hv, ht⟩ := strsAre_values hi
  have e : items = (strValues l).toArray := by rw [← hv]
  subst e
  subst ht
  have hok' := joinOk_of hok
  unfold JoinOk at hok'
  rw [Bool.not_eq_true'] at hok'
  exact call_meets F.slot_str_join (typeIs_str _ _ _) F.entry_str_join (F.args_str_join_2 _ _) (meets_str_join_list x t D l hok') ⟨hl, post_joinK l ⟨joinFit_length hok', h⟩⟩
theorem join_XK {h₀ : Heap} {L : Addr} {news : List (Addr × Obj)} {D : Addr} {vs : List Value} {rows : List (List Nat)} {n : Nat} {x : PySem.Str} (hx : x = T []) (N : News h₀ L s.heap news) (hm : (D, W.listOf vs.toArray n) ∈ news) (hi : StrsAre vs (rows.map T)) (hz : rows.flatten.length ≤ 1000000)
    (h : ∀ t' k, s.toks ≤ k → Q (.str (T rows.flatten) t') { s with toks := k }) : wpAny (model prog w) A (call (.builtin "str.join") [.str x t, .ref D]) Q E s := by
  subst hx
  refine join_listK (News.isList N hm) hi ?_ (fun t' k hk => ?_)
  · rw [map_T_len, T_len]; simp only [List.length_nil, Nat.mul_zero]; (first | lia | omega)
  · rw [join_T]; exact h t' k hk
end
end Mine
end
section
open PySem PySem.W PyProof.Rows
namespace Mine
theorem fill_one : (fun (_ : OpenLaw) (_ : Params → Frag) => True) PySem.Challenge.rw_sa0053_01 hd.heap_39 := by
  k_fill
  trivial
local macro_rules | `(tactic| walk_at $k:str) => `(tactic| k_extra $k)
local macro_rules | `(tactic| k_ne) => `(tactic| (refine neN ?_; (try dsimp only); first | k_extra "k_ne" | omega))
/-! part E1 -/
section
/-- the ledger of a page -/
abbrev PL (P : Params) (pg dx o : Addr) (t1 t2 : Tok) (row : List Nat) (tr : Tok) (vs : List Value) (k : Nat) (own : Ledger) : Ledger :=
  (pg, instObj 54 dx) :: (dx, dictOf (pageD P t1 t2 o (.str (T row) tr)) 2) :: (o, W.listOf vs.toArray k) :: own

/-- the values are the rows -/
def RowsAre (vs : List Value) (rows : List (List Nat)) : Prop := StrsAre vs (rows.map T)
theorem RowsAre.nil : RowsAre [] [] := StrsAre.nil
theorem RowsAre.len {vs : List Value} {rows : List (List Nat)} (h : RowsAre vs rows) : vs.length = rows.length := by
  have := StrsAre.length h
  simpa using this
theorem RowsAre.snoc {vs : List Value} {rows : List (List Nat)} (h : RowsAre vs rows) (r : List Nat) (t : Tok) : RowsAre (vs ++ [.str (T r) t]) (rows ++ [r]) := by
  unfold RowsAre
  rw [List.map_append]
  exact StrsAre.append' h (.cons _ _ .nil)

theorem Ctr.useP {prog : Program} {w : World} {p : Program} {loose : List Str} {mean : ExcName → Option Value} {mg mb : Str → Option Value} {f : Addr} {need : Nat} {vs : List Value} {news : Ledger}
    {dp un : Nat} {gd : Option (List Code)} {cn : Str} {cs : Scope} {a : Addr} {ccd : Value} {cl : List (Str × Addr)} {outer : List Env} {A₀ : Around} {base h₀ : Heap} {L : Addr} {m : Str → Option Value} {s : Shared} {Q E : Value → Shared → Prop} {V : Value} {P : Params} {pg dx o : Addr} {t1 t2 : Tok} {D : List Nat} {C9 : List (List Nat)} {own : Ledger}
    (C : Ctr prog w p loose mean mg mb f need vs news (fun v news' => v = V ∧ ∃ (tr' : Tok) (vs' : List Value) (k' : Nat), news' = PL P pg dx o t1 t2 D tr' vs' k' own ∧ RowsAre vs' C9)) (B : Below A₀ base outer h₀) (F : Fr h₀ L s.heap m) (X : (hd.heap_39 w.params).In h₀) (N : News h₀ L s.heap news) (T : Top p loose mean mg mb h₀) (hk : cs.kind = .function)
    (hd : dp + need < recursionLimit) (hu : un + 8 * need < cLine)
    (ret : ∀ tr' vs' k' h' tk', RowsAre vs' C9 → Fr h₀ L h' m → News h₀ L h' (PL P pg dx o t1 t2 D tr' vs' k' own) → Q V { s with heap := h', toks := tk' }) :
    wpAny (model prog w) (ktrTop dp un gd cn cs L a ccd cl outer) (call (.ref f) vs) Q E s :=
  C.use B F X N T hk hd hu (by rintro v9 n9 h9 tk9 ⟨rfl, tr9, vs9, k9, rfl, hv9⟩ F9 N9; exact ret tr9 vs9 k9 h9 tk9 hv9 F9 N9)
theorem Ctr.useA {prog : Program} {w : World} {p : Program} {loose : List Str} {mean : ExcName → Option Value} {mg mb : Str → Option Value} {f : Addr} {need : Nat} {vs : List Value} {news : Ledger}
    {dp un : Nat} {gd : Option (List Code)} {cn : Str} {cs : Scope} {a : Addr} {ccd : Value} {cl : List (Str × Addr)} {outer : List Env} {A₀ : Around} {base h₀ : Heap} {L : Addr} {m : Str → Option Value} {s : Shared} {Q E : Value → Shared → Prop} {l9 : Ledger} {RR : List (List Nat)}
    (C : Ctr prog w p loose mean mg mb f need vs news (fun v news' => ∃ (la : Addr) (ws : List Value), v = .ref la ∧ AllLt la l9 ∧ news' = (la, W.listOf ws.toArray 0) :: l9 ∧ RowsAre ws RR)) (B : Below A₀ base outer h₀) (F : Fr h₀ L s.heap m) (X : (hd.heap_39 w.params).In h₀) (N : News h₀ L s.heap news) (T : Top p loose mean mg mb h₀) (hk : cs.kind = .function)
    (hd : dp + need < recursionLimit) (hu : un + 8 * need < cLine)
    (ret : ∀ la ws h' tk', AllLt la l9 → RowsAre ws RR → Fr h₀ L h' m → News h₀ L h' ((la, W.listOf ws.toArray 0) :: l9) → Q (.ref la) { s with heap := h', toks := tk' }) :
    wpAny (model prog w) (ktrTop dp un gd cn cs L a ccd cl outer) (call (.ref f) vs) Q E s :=
  C.use B F X N T hk hd hu (by rintro v9 n9 h9 tk9 ⟨la9, ws9, rfl, lA9, rfl, hv9⟩ F9 N9; exact ret la9 ws9 h9 tk9 lA9 hv9 F9 N9)
section
variable {prog : Program} {w : World} {p : Program} {loose : List Str} {mean : ExcName → Option Value} {mg mb : Str → Option Value}
theorem end_row_ok (pg dx o : Addr) (t1 t2 tr : Tok) (row : List Nat) (rows : List (List Nat)) (vs : List Value) (k : Nat) (own : Ledger) (h1 : @Ne Nat pg dx) (h2 : @Ne Nat pg o) (h3 : @Ne Nat dx o) (ho : OwnOff own [pg, dx, o]) (hv : RowsAre vs rows) (hsz : rows.length ≤ 100000) :
  Ctr prog w p loose mean mg mb 65 1 [.ref pg]
    (PL w.params pg dx o t1 t2 row tr vs k own)
    (fun v news' => v = .none ∧ ∃ (tr' : Tok) (vs' : List Value) (k' : Nat), news' = PL w.params pg dx o t1 t2 [] tr' vs' k' own ∧ RowsAre vs' (rows ++ [row])) := by
  refine Ctr.of ?_
  intro dp un gd cn cs a ccd cl outer A₀ base h₀ L m hp gn dr tk0 os0 Q E B F X N T hk hdp hun hret
  have hlen := hv.len
  dsimp only [PL] at N hret
  w_on
  k_with_none
  k_with "call builtin:list.append" =>
    (k_here; (show wpAny _ _ (call (Value.builtin "list.append") [Value.ref _, _]) _ _ _); k_dflt (refine' append_K ?y1k1 ?y1k2 ?y1k3 ?_ ?y1z; (case y1k1 => k_asm); (case y1k2 => k_asm); (case y1k3 => k_upd); (case y1z => first | size_fits | (simp only [List.size_toArray, sizeLine_eq]; (first | lia | omega))); k_whole); intro h' F' N'; (try k_sweep))
  k_with "call builtin:len" =>
    ((with_reducible show wpAny _ _ (call (Value.builtin "len") [Value.str _ _]) _ _ _); (refine' len_X ?y2kx ?y2kz ?_; (case y2kx => first | exact rfl | exact T_nil | exact T_blank); (case y2kz => first | (first | lia | omega) | ((try simp only [List.length_append, List.length_replicate, List.length_nil, List.length_cons, List.length_take, List.length_drop]); (first | lia | omega))); k_whole))
  k_with "binaryOp Add str str" =>
    ((with_reducible show wpAny _ _ (binaryOp Operator.Add (Value.str _ _) (Value.str _ _)) _ _ _); (refine' add_X ?y3kx ?y3ky ?y3kz ?_; (case y3kx => first | exact rfl | exact T_nil | exact T_blank); (case y3ky => first | exact rfl | exact T_nil | exact T_blank); (case y3kz => first | (first | lia | omega) | ((try simp only [List.length_append, List.length_replicate, List.length_nil, List.length_cons, List.length_take, List.length_drop]); (first | lia | omega))); k_whole); intro _ _)
  k_with "compareOp Eq str str" =>
    ((with_reducible show wpAny _ _ (compareOp CmpOp.Eq (Value.str (T _) _) (Value.str _ _)) _ _ _); (refine' eq_X ?y4kx ?y4ky ?_; (case y4kx => first | exact rfl | exact T_nil | exact T_blank); (case y4ky => first | exact rfl | exact T_nil | exact T_blank); k_whole))
  k_with "compareOp Eq str str" =>
    ((with_reducible show wpAny _ _ (compareOp CmpOp.Eq (Value.str _ _) (Value.str (T _) _)) _ _ _); (refine' eq_X ?y5kx ?y5ky ?_; (case y5kx => first | exact rfl | exact T_nil | exact T_blank); (case y5ky => first | exact rfl | exact T_nil | exact T_blank); k_whole))
  k_with "compareOp NotEq str str" =>
    ((with_reducible show wpAny _ _ (compareOp CmpOp.NotEq (Value.str (T _) _) (Value.str _ _)) _ _ _); (refine' ne_X ?y6kx ?y6ky ?_; (case y6kx => first | exact rfl | exact T_nil | exact T_blank); (case y6ky => first | exact rfl | exact T_nil | exact T_blank); k_whole))
  k_with "compareOp NotEq str str" =>
    ((with_reducible show wpAny _ _ (compareOp CmpOp.NotEq (Value.str _ _) (Value.str (T _) _)) _ _ _); (refine' ne_X ?y7kx ?y7ky ?_; (case y7kx => first | exact rfl | exact T_nil | exact T_blank); (case y7ky => first | exact rfl | exact T_nil | exact T_blank); k_whole))
  k_with "binaryOp Mult str int" =>
    ((with_reducible show wpAny _ _ (binaryOp Operator.Mult (Value.str _ _) (Value.int _ _)) _ _ _); (refine' mul_X ?y8kx ?y8k0 ?y8kn ?_; (case y8kx => first | exact rfl | exact T_blank); (case y8k0 => first | (first | lia | omega) | (simp only [List.length_nil]; (first | lia | omega))); (case y8kn => first | (first | lia | omega) | (simp only [List.length_nil]; (first | lia | omega))); k_whole); intro _ _)
  k_with "subscriptTail Name Slice str ref" =>
    ((with_reducible show wpAny _ _ (subscriptTail _ (PySem.Expr.Slice none (some _) none _) (Value.str (T _) _) _) _ _ _); (with_reducible rename Fr _ _ _ _ => F'); (with_reducible rename News _ _ _ _ => N'); (refine' take_T (s := ⟨_, _, _, _, _⟩) ?y9k0 ?y9k1 ?y9kz F' N' ?_ ?y9ks ?y9kt; (case y9k0 => (first | lia | omega)); (case y9k1 => (first | lia | omega)); (case y9kz => (first | lia | omega)); (case y9ks => with_unfolding_all rfl); (case y9kt => intro _; with_unfolding_all rfl); k_whole); intro h' _ _ F' N')
  k_with "subscriptTail Name Slice str ref" =>
    ((with_reducible show wpAny _ _ (subscriptTail _ (PySem.Expr.Slice (some _) none none _) (Value.str (T _) _) _) _ _ _); (with_reducible rename Fr _ _ _ _ => F'); (with_reducible rename News _ _ _ _ => N'); (refine' drop_T (s := ⟨_, _, _, _, _⟩) ?y10k0 ?y10k1 ?y10kz F' N' ?_ ?y10ks ?y10kt; (case y10k0 => (first | lia | omega)); (case y10k1 => (first | lia | omega)); (case y10kz => (first | lia | omega)); (case y10ks => with_unfolding_all rfl); (case y10kt => intro _; with_unfolding_all rfl); k_whole); intro h' _ _ F' N')
  k_with "call ref" =>
    k_dflt (k_extra "my call")
  k_with "exec While" =>
    k_dflt (k_extra "my while")
  k_with "exec For" =>
    k_dflt (k_extra "my for")
  k_with "pyIter ref" =>
    k_dflt (k_extra "my iter")
  k_with "subscriptTail Name Constant ref int" =>
    k_dflt (k_extra "my item")
  k_with "binaryOp Add ref ref" =>
    (k_here; (show wpAny _ _ (binaryOp Operator.Add (Value.ref _) (Value.ref _)) _ _ _); k_dflt (refine' add_L ?y16k1 ?y16k2 ?y16k3 ?y16k4 ?_ ?y16z; (case y16k1 => k_asm); (case y16k2 => k_asm); (case y16k3 => k_mem); (case y16k4 => k_mem); (case y16z => first | (first | lia | omega) | (simp only [List.length_cons, List.length_nil, List.length_append]; (first | lia | omega))); k_whole); intro c9 h9 F9 N9 l9; (have lA := allLt_of l9); (try k_lt l9); (try dsimp only [List.append_nil, List.nil_append, List.cons_append] at N9); (try k_sweep))
  k_with "subscriptTail Constant" =>
    ((with_reducible show wpAny _ _ (subscriptTail _ (PySem.Expr.Slice (some _) (some _) none _) (Value.str (Str.ofString "abcdefghijklmnopqrst") _) _) _ _ _); (with_reducible rename Fr _ _ _ _ => F'); (with_reducible rename News _ _ _ _ => N'); (refine' cut_X (s := ⟨_, _, _, _, _⟩) alpha_T ?y17k0 ?y17k1 ?y17k2 ?y17kz F' N' ?_ ?y17ks ?y17kt; (case y17k0 => (first | lia | omega)); (case y17k1 => (first | lia | omega)); (case y17k2 => rw [List.length_range']; (first | lia | omega)); (case y17kz => rw [List.length_range']; decide); (case y17ks => with_unfolding_all rfl); (case y17kt => intro _; with_unfolding_all rfl); k_whole); intro h' _ _ F' N')
  k_with "subscriptTail Attribute" =>
    k_dflt (k_extra "my item2")
  k_with "call builtin:len" =>
    (k_here; (with_reducible show wpAny _ _ (call (Value.builtin "len") [Value.ref _]) _ _ _); k_dflt (refine' len_L ?y19k1 ?y19k2 ?y19z ?_; (case y19k1 => k_asm); (case y19k2 => first | k_mem | ((repeat' (first | assumption | refine List.mem_cons_of_mem _ ?_)); done)); (case y19z => first | (first | lia | omega) | ((try simp only [List.length_append, List.length_nil, List.length_cons]); (first | lia | omega))); k_whole))
  k_with "subscriptTail Attribute BinOp ref int" =>
    k_dflt (k_extra "my item2")
  k_with "eval ListComp" =>
    k_dflt (k_extra "my comp")
  k_with "CompSrc" =>
    k_dflt (k_extra "my src")
  k_with "CompSrcT" =>
    k_dflt (k_extra "my srcT")
  k_with "SrcLP" =>
    k_dflt (k_extra "my srcP")
  k_with "CompEnd" =>
    k_dflt (k_extra "my end")
  k_with "k_ne" =>
    first | with_reducible assumption | exact Ne.symm (by with_reducible assumption) | exact Nat.ne_of_lt (by with_reducible assumption) | exact Nat.ne_of_gt (by with_reducible assumption) | exact neL0 (by with_reducible assumption) | exact neR0 (by with_reducible assumption) | exact neL1 (by with_reducible assumption) | exact neR1 (by with_reducible assumption) | exact neL2 (by with_reducible assumption) | exact neR2 (by with_reducible assumption) | exact neL3 (by with_reducible assumption) | exact neR3 (by with_reducible assumption) | exact neL4 (by with_reducible assumption) | exact neR4 (by with_reducible assumption) | exact neL5 (by with_reducible assumption) | exact neR5 (by with_reducible assumption) | exact neL6 (by with_reducible assumption) | exact neR6 (by with_reducible assumption) | exact neL7 (by with_reducible assumption) | exact neR7 (by with_reducible assumption) | exact neL8 (by with_reducible assumption) | exact neR8 (by with_reducible assumption) | exact neL9 (by with_reducible assumption) | exact neR9 (by with_reducible assumption) | exact neL10 (by with_reducible assumption) | exact neR10 (by with_reducible assumption) | exact neL11 (by with_reducible assumption) | exact neR11 (by with_reducible assumption) | exact neL12 (by with_reducible assumption) | exact neR12 (by with_reducible assumption) | exact neL13 (by with_reducible assumption) | exact neR13 (by with_reducible assumption) | exact neTL0 (by with_reducible assumption) (by with_reducible assumption) | exact neTR0 (by with_reducible assumption) (by with_reducible assumption) | exact neTL1 (by with_reducible assumption) (by with_reducible assumption) | exact neTR1 (by with_reducible assumption) (by with_reducible assumption) | exact neTL2 (by with_reducible assumption) (by with_reducible assumption) | exact neTR2 (by with_reducible assumption) (by with_reducible assumption) | exact neTL3 (by with_reducible assumption) (by with_reducible assumption) | exact neTR3 (by with_reducible assumption) (by with_reducible assumption) | exact neTL4 (by with_reducible assumption) (by with_reducible assumption) | exact neTR4 (by with_reducible assumption) (by with_reducible assumption) | exact neTL5 (by with_reducible assumption) (by with_reducible assumption) | exact neTR5 (by with_reducible assumption) (by with_reducible assumption) | exact neTL6 (by with_reducible assumption) (by with_reducible assumption) | exact neTR6 (by with_reducible assumption) (by with_reducible assumption) | exact neTL7 (by with_reducible assumption) (by with_reducible assumption) | exact neTR7 (by with_reducible assumption) (by with_reducible assumption) | exact neTL8 (by with_reducible assumption) (by with_reducible assumption) | exact neTR8 (by with_reducible assumption) (by with_reducible assumption) | exact neTL9 (by with_reducible assumption) (by with_reducible assumption) | exact neTR9 (by with_reducible assumption) (by with_reducible assumption) | exact neQ0 (by with_reducible assumption) | exact Ne.symm (neQ0 (by with_reducible assumption)) | exact neQ1 (by with_reducible assumption) | exact Ne.symm (neQ1 (by with_reducible assumption)) | exact neQ2 (by with_reducible assumption) | exact Ne.symm (neQ2 (by with_reducible assumption)) | exact neQ3 (by with_reducible assumption) | exact Ne.symm (neQ3 (by with_reducible assumption)) | exact neQ4 (by with_reducible assumption) | exact Ne.symm (neQ4 (by with_reducible assumption)) | exact neQ5 (by with_reducible assumption) | exact Ne.symm (neQ5 (by with_reducible assumption)) | exact neQ6 (by with_reducible assumption) | exact Ne.symm (neQ6 (by with_reducible assumption)) | exact neQ7 (by with_reducible assumption) | exact Ne.symm (neQ7 (by with_reducible assumption)) | exact neQ8 (by with_reducible assumption) | exact Ne.symm (neQ8 (by with_reducible assumption)) | exact neQ9 (by with_reducible assumption) | exact Ne.symm (neQ9 (by with_reducible assumption))
  refine wpAny_call ?_
  k_dflt cell_enter
  (try (refine nameL ?_; intro ak; refine nameE ?_; intro ev))
  repeat' (first | (k_unfold; (try dsimp only)) | walk1 | (dsimp only; walk1) | fail "no step")
  (rename Fr _ _ _ _ => kF)
  (rename News _ _ _ _ => kN)
  simp only [List.push_toArray, T_nil] at kN
  exact hret _ _ _ _ ⟨rfl, _, _, _, rfl, hv.snoc _ _⟩ kF kN
end
end
/-! part E2 -/
section
theorem prod4 {α β γ δ : Type} {G : α × β × γ × δ → Prop} (H : ∀ a b c d, G (a, b, c, d)) : ∀ x, G x := fun ⟨a, b, c, d⟩ => H a b c d
theorem exAnd4 {α : Type} {a b c d : α → Prop} {G : Prop} (h : ∃ x, a x ∧ b x ∧ c x ∧ d x) (H : ∀ x, a x → b x → c x → d x → G) : G := by
  obtain ⟨x, h1, h2, h3, h4⟩ := h
  exact H x h1 h2 h3 h4
theorem kst_same1 {x : Str} {v v' : Value} {u m₀ : Str → Option Value} {z : Str} (h : z ≠ x) : (if z = x then some v' else kstB (fun z => if ([] : List Str).contains z = true then u z else m₀ z) [(x, v)] z) = m₀ z := by
  rw [if_neg h]
  show (if z = x then _ else _) = _
  rw [if_neg h]
  rfl
theorem wt_turn {rows cs : List (List Nat)} {text1 text : List Nat} {w : Nat} {vs : List Value} (t : Tok) (hR : RowsAre vs (rows ++ cs)) (e1 : cs ++ (chop w text1).1 = (chop w text).1) (e2 : (chop w text1).2 = (chop w text).2) (hl : text1.length + cs.length ≤ text.length)
    (h0 : 0 < w) (h : w < text1.length) : ∃ cs', RowsAre (vs ++ [Value.str (T (text1.take (w : Int).toNat)) t]) (rows ++ cs') ∧ cs' ++ (chop w (text1.drop (w : Int).toNat)).1 = (chop w text).1 ∧ (chop w (text1.drop (w : Int).toNat)).2 = (chop w text).2 ∧ (text1.drop (w : Int).toNat).length + cs'.length ≤ text.length := by
  rw [Int.toNat_natCast]
  rw [chop_go ⟨h0, h⟩] at e1 e2
  refine ⟨cs ++ [text1.take w], ?_, ?_, e2, ?_⟩
  · rw [← List.append_assoc]; exact hR.snoc _ _
  · rw [List.append_assoc]; exact e1
  · simp only [List.length_drop, List.length_append, List.length_cons, List.length_nil]; (first | lia | omega)
theorem wt_done {cs : List (List Nat)} {text1 text : List Nat} {w : Nat} {vs : List Value} {p : Pg} {rows : List (List Nat)} {row : List Nat} (hq : broken w p text = (rows, row)) (hR : RowsAre vs (rows ++ cs)) (e1 : cs ++ (chop w text1).1 = (chop w text).1) (e2 : (chop w text1).2 = (chop w text).2)
    (h : ¬ (0 < w ∧ w < text1.length)) : row ++ text1 = (writeText w p text).2 ∧ RowsAre vs (writeText w p text).1 := by
  rw [chop_stop h] at e1 e2
  unfold writeText
  rw [hq]
  simp only [List.append_nil] at e1
  simp only at e2
  exact ⟨by rw [← e2], by rw [← e1]; exact hR⟩
section
variable {prog : Program} {w : World} {p : Program} {loose : List Str} {mean : ExcName → Option Value} {mg mb : Str → Option Value}
theorem write_text_ok (pg dx o : Addr) (t1 t2 tr tt tw : Tok) (row text : List Nat) (width : Nat) (rows : List (List Nat)) (vs : List Value) (k : Nat) (own : Ledger) (h1 : @Ne Nat pg dx) (h2 : @Ne Nat pg o) (h3 : @Ne Nat dx o) (ho : OwnOff own [pg, dx, o]) (hv : RowsAre vs rows) (hsz : rows.length ≤ 10000)
   (hw2 : width ≤ 1000) (hr : row.length ≤ 10000) (ht : text.length ≤ 400) :
  Ctr prog w p loose mean mg mb 72 2 [.ref pg, .str (T text) tt, .int (width : Int) tw]
    (PL w.params pg dx o t1 t2 row tr vs k own)
    (fun v news' => v = .none ∧ ∃ (tr' : Tok) (vs' : List Value) (k' : Nat), news' = PL w.params pg dx o t1 t2 (writeText width (rows, row) text).2 tr' vs' k' own ∧ RowsAre vs' (writeText width (rows, row) text).1) := by
  refine Ctr.of ?_
  intro dp un gd cn cs a ccd cl outer A₀ base h₀ L m hp gn dr tk0 os0 Q E B F X N Tp hk hdp hun hret
  have hlen := hv.len
  dsimp only [PL] at N hret
  w_on
  k_with_none
  k_with "call builtin:list.append" =>
    (k_here; (show wpAny _ _ (call (Value.builtin "list.append") [Value.ref _, _]) _ _ _); k_dflt (refine' append_K ?y1k1 ?y1k2 ?y1k3 ?_ ?y1z; (case y1k1 => k_asm); (case y1k2 => k_asm); (case y1k3 => k_upd); (case y1z => first | size_fits | (simp only [List.size_toArray, sizeLine_eq]; (first | lia | omega))); k_whole); intro h' F' N'; (try k_sweep))
  k_with "call builtin:len" =>
    ((with_reducible show wpAny _ _ (call (Value.builtin "len") [Value.str _ _]) _ _ _); (refine' len_X ?y2kx ?y2kz ?_; (case y2kx => first | exact rfl | exact T_nil | exact T_blank); (case y2kz => first | (first | lia | omega) | ((try simp only [List.length_append, List.length_replicate, List.length_nil, List.length_cons, List.length_take, List.length_drop]); (first | lia | omega))); k_whole))
  k_with "binaryOp Add str str" =>
    ((with_reducible show wpAny _ _ (binaryOp Operator.Add (Value.str _ _) (Value.str _ _)) _ _ _); (refine' add_X ?y3kx ?y3ky ?y3kz ?_; (case y3kx => first | exact rfl | exact T_nil | exact T_blank); (case y3ky => first | exact rfl | exact T_nil | exact T_blank); (case y3kz => first | (first | lia | omega) | ((try simp only [List.length_append, List.length_replicate, List.length_nil, List.length_cons, List.length_take, List.length_drop]); (first | lia | omega))); k_whole); intro _ _)
  k_with "compareOp Eq str str" =>
    ((with_reducible show wpAny _ _ (compareOp CmpOp.Eq (Value.str (T _) _) (Value.str _ _)) _ _ _); (refine' eq_X ?y4kx ?y4ky ?_; (case y4kx => first | exact rfl | exact T_nil | exact T_blank); (case y4ky => first | exact rfl | exact T_nil | exact T_blank); k_whole))
  k_with "compareOp Eq str str" =>
    ((with_reducible show wpAny _ _ (compareOp CmpOp.Eq (Value.str _ _) (Value.str (T _) _)) _ _ _); (refine' eq_X ?y5kx ?y5ky ?_; (case y5kx => first | exact rfl | exact T_nil | exact T_blank); (case y5ky => first | exact rfl | exact T_nil | exact T_blank); k_whole))
  k_with "compareOp NotEq str str" =>
    ((with_reducible show wpAny _ _ (compareOp CmpOp.NotEq (Value.str (T _) _) (Value.str _ _)) _ _ _); (refine' ne_X ?y6kx ?y6ky ?_; (case y6kx => first | exact rfl | exact T_nil | exact T_blank); (case y6ky => first | exact rfl | exact T_nil | exact T_blank); k_whole))
  k_with "compareOp NotEq str str" =>
    ((with_reducible show wpAny _ _ (compareOp CmpOp.NotEq (Value.str _ _) (Value.str (T _) _)) _ _ _); (refine' ne_X ?y7kx ?y7ky ?_; (case y7kx => first | exact rfl | exact T_nil | exact T_blank); (case y7ky => first | exact rfl | exact T_nil | exact T_blank); k_whole))
  k_with "binaryOp Mult str int" =>
    ((with_reducible show wpAny _ _ (binaryOp Operator.Mult (Value.str _ _) (Value.int _ _)) _ _ _); (refine' mul_X ?y8kx ?y8k0 ?y8kn ?_; (case y8kx => first | exact rfl | exact T_blank); (case y8k0 => first | (first | lia | omega) | (simp only [List.length_nil]; (first | lia | omega))); (case y8kn => first | (first | lia | omega) | (simp only [List.length_nil]; (first | lia | omega))); k_whole); intro _ _)
  k_with "subscriptTail Name Slice str ref" =>
    ((with_reducible show wpAny _ _ (subscriptTail _ (PySem.Expr.Slice none (some _) none _) (Value.str (T _) _) _) _ _ _); (with_reducible rename Fr _ _ _ _ => F'); (with_reducible rename News _ _ _ _ => N'); (refine' take_T (s := ⟨_, _, _, _, _⟩) ?y9k0 ?y9k1 ?y9kz F' N' ?_ ?y9ks ?y9kt; (case y9k0 => (first | lia | omega)); (case y9k1 => (first | lia | omega)); (case y9kz => (first | lia | omega)); (case y9ks => with_unfolding_all rfl); (case y9kt => intro _; with_unfolding_all rfl); k_whole); intro h' _ _ F' N')
  k_with "subscriptTail Name Slice str ref" =>
    ((with_reducible show wpAny _ _ (subscriptTail _ (PySem.Expr.Slice (some _) none none _) (Value.str (T _) _) _) _ _ _); (with_reducible rename Fr _ _ _ _ => F'); (with_reducible rename News _ _ _ _ => N'); (refine' drop_T (s := ⟨_, _, _, _, _⟩) ?y10k0 ?y10k1 ?y10kz F' N' ?_ ?y10ks ?y10kt; (case y10k0 => (first | lia | omega)); (case y10k1 => (first | lia | omega)); (case y10kz => (first | lia | omega)); (case y10ks => with_unfolding_all rfl); (case y10kt => intro _; with_unfolding_all rfl); k_whole); intro h' _ _ F' N')
  k_with "call ref" =>
    k_dflt (k_extra "my call")
  k_with "exec While" =>
    k_dflt (k_extra "my while")
  k_with "exec For" =>
    k_dflt (k_extra "my for")
  k_with "pyIter ref" =>
    k_dflt (k_extra "my iter")
  k_with "subscriptTail Name Constant ref int" =>
    k_dflt (k_extra "my item")
  k_with "binaryOp Add ref ref" =>
    (k_here; (show wpAny _ _ (binaryOp Operator.Add (Value.ref _) (Value.ref _)) _ _ _); k_dflt (refine' add_L ?y16k1 ?y16k2 ?y16k3 ?y16k4 ?_ ?y16z; (case y16k1 => k_asm); (case y16k2 => k_asm); (case y16k3 => k_mem); (case y16k4 => k_mem); (case y16z => first | (first | lia | omega) | (simp only [List.length_cons, List.length_nil, List.length_append]; (first | lia | omega))); k_whole); intro c9 h9 F9 N9 l9; (have lA := allLt_of l9); (try k_lt l9); (try dsimp only [List.append_nil, List.nil_append, List.cons_append] at N9); (try k_sweep))
  k_with "subscriptTail Constant" =>
    ((with_reducible show wpAny _ _ (subscriptTail _ (PySem.Expr.Slice (some _) (some _) none _) (Value.str (Str.ofString "abcdefghijklmnopqrst") _) _) _ _ _); (with_reducible rename Fr _ _ _ _ => F'); (with_reducible rename News _ _ _ _ => N'); (refine' cut_X (s := ⟨_, _, _, _, _⟩) alpha_T ?y17k0 ?y17k1 ?y17k2 ?y17kz F' N' ?_ ?y17ks ?y17kt; (case y17k0 => (first | lia | omega)); (case y17k1 => (first | lia | omega)); (case y17k2 => rw [List.length_range']; (first | lia | omega)); (case y17kz => rw [List.length_range']; decide); (case y17ks => with_unfolding_all rfl); (case y17kt => intro _; with_unfolding_all rfl); k_whole); intro h' _ _ F' N')
  k_with "subscriptTail Attribute" =>
    k_dflt (k_extra "my item2")
  k_with "call builtin:len" =>
    (k_here; (with_reducible show wpAny _ _ (call (Value.builtin "len") [Value.ref _]) _ _ _); k_dflt (refine' len_L ?y19k1 ?y19k2 ?y19z ?_; (case y19k1 => k_asm); (case y19k2 => first | k_mem | ((repeat' (first | assumption | refine List.mem_cons_of_mem _ ?_)); done)); (case y19z => first | (first | lia | omega) | ((try simp only [List.length_append, List.length_nil, List.length_cons]); (first | lia | omega))); k_whole))
  k_with "subscriptTail Attribute BinOp ref int" =>
    k_dflt (k_extra "my item2")
  k_with "eval ListComp" =>
    k_dflt (k_extra "my comp")
  k_with "CompSrc" =>
    k_dflt (k_extra "my src")
  k_with "CompSrcT" =>
    k_dflt (k_extra "my srcT")
  k_with "SrcLP" =>
    k_dflt (k_extra "my srcP")
  k_with "CompEnd" =>
    k_dflt (k_extra "my end")
  k_with "k_ne" =>
    first | with_reducible assumption | exact Ne.symm (by with_reducible assumption) | exact Nat.ne_of_lt (by with_reducible assumption) | exact Nat.ne_of_gt (by with_reducible assumption) | exact neL0 (by with_reducible assumption) | exact neR0 (by with_reducible assumption) | exact neL1 (by with_reducible assumption) | exact neR1 (by with_reducible assumption) | exact neL2 (by with_reducible assumption) | exact neR2 (by with_reducible assumption) | exact neL3 (by with_reducible assumption) | exact neR3 (by with_reducible assumption) | exact neL4 (by with_reducible assumption) | exact neR4 (by with_reducible assumption) | exact neL5 (by with_reducible assumption) | exact neR5 (by with_reducible assumption) | exact neL6 (by with_reducible assumption) | exact neR6 (by with_reducible assumption) | exact neL7 (by with_reducible assumption) | exact neR7 (by with_reducible assumption) | exact neL8 (by with_reducible assumption) | exact neR8 (by with_reducible assumption) | exact neL9 (by with_reducible assumption) | exact neR9 (by with_reducible assumption) | exact neL10 (by with_reducible assumption) | exact neR10 (by with_reducible assumption) | exact neL11 (by with_reducible assumption) | exact neR11 (by with_reducible assumption) | exact neL12 (by with_reducible assumption) | exact neR12 (by with_reducible assumption) | exact neL13 (by with_reducible assumption) | exact neR13 (by with_reducible assumption) | exact neTL0 (by with_reducible assumption) (by with_reducible assumption) | exact neTR0 (by with_reducible assumption) (by with_reducible assumption) | exact neTL1 (by with_reducible assumption) (by with_reducible assumption) | exact neTR1 (by with_reducible assumption) (by with_reducible assumption) | exact neTL2 (by with_reducible assumption) (by with_reducible assumption) | exact neTR2 (by with_reducible assumption) (by with_reducible assumption) | exact neTL3 (by with_reducible assumption) (by with_reducible assumption) | exact neTR3 (by with_reducible assumption) (by with_reducible assumption) | exact neTL4 (by with_reducible assumption) (by with_reducible assumption) | exact neTR4 (by with_reducible assumption) (by with_reducible assumption) | exact neTL5 (by with_reducible assumption) (by with_reducible assumption) | exact neTR5 (by with_reducible assumption) (by with_reducible assumption) | exact neTL6 (by with_reducible assumption) (by with_reducible assumption) | exact neTR6 (by with_reducible assumption) (by with_reducible assumption) | exact neTL7 (by with_reducible assumption) (by with_reducible assumption) | exact neTR7 (by with_reducible assumption) (by with_reducible assumption) | exact neTL8 (by with_reducible assumption) (by with_reducible assumption) | exact neTR8 (by with_reducible assumption) (by with_reducible assumption) | exact neTL9 (by with_reducible assumption) (by with_reducible assumption) | exact neTR9 (by with_reducible assumption) (by with_reducible assumption) | exact neQ0 (by with_reducible assumption) | exact Ne.symm (neQ0 (by with_reducible assumption)) | exact neQ1 (by with_reducible assumption) | exact Ne.symm (neQ1 (by with_reducible assumption)) | exact neQ2 (by with_reducible assumption) | exact Ne.symm (neQ2 (by with_reducible assumption)) | exact neQ3 (by with_reducible assumption) | exact Ne.symm (neQ3 (by with_reducible assumption)) | exact neQ4 (by with_reducible assumption) | exact Ne.symm (neQ4 (by with_reducible assumption)) | exact neQ5 (by with_reducible assumption) | exact Ne.symm (neQ5 (by with_reducible assumption)) | exact neQ6 (by with_reducible assumption) | exact Ne.symm (neQ6 (by with_reducible assumption)) | exact neQ7 (by with_reducible assumption) | exact Ne.symm (neQ7 (by with_reducible assumption)) | exact neQ8 (by with_reducible assumption) | exact Ne.symm (neQ8 (by with_reducible assumption)) | exact neQ9 (by with_reducible assumption) | exact Ne.symm (neQ9 (by with_reducible assumption))
  k_with "my call" =>
    (show wpAny _ _ (call (Value.ref 65) [_]) _ _ _)
    (with_reducible rename News _ _ _ _ => kN)
    (with_unfolding_all refine Ctr.useP (end_row_ok _ _ _ _ _ _ _ _ _ _ _ (by assumption) (by assumption) (by assumption) (by assumption) (by assumption) (by first | with_reducible assumption | exact Nat.le_trans (by with_reducible assumption) (by decide) | (first | lia | omega) | (simp only [List.length_append, List.length_cons, List.length_nil, List.length_replicate]; (first | lia | omega)))) (by k_asm) (by k_asm) (by k_asm) kN (by k_asm) (by first | exact rfl | assumption) (by (first | exact roomL (by with_reducible assumption) (by rfl) | exact roomL (by assumption) (by rfl) | ktr_room | ((dsimp only [ak]); ktr_room))) (by (first | exact roomU (by with_reducible assumption) (by rfl) | exact roomU (by assumption) (by rfl) | ktr_units | ((dsimp only [ak]); ktr_units))) ?_)
    clear kN
    intro tr9 vs9 k9 h9 tk9 hv9 F9 N9
    (try dsimp only [PL] at N9)
    (try dsimp only)
    (try k_sweep)
  k_with "my while" =>
    (with_reducible rename Fr _ _ _ _ => lF')
    (with_reducible rename News _ _ _ _ => lN')
    (first
      | (with_unfolding_all refine ksw_while (σ := List Value × Nat × List Nat × Tok) (fun c => PL w.params pg dx o t1 t2 row tr c.1 c.2.1 own) (fun c => [(Str.ofString "text", Value.str (T c.2.2.1) c.2.2.2)]) (fun _ => True) [] (fun c => ∃ cs, RowsAre c.1 (rows ++ cs) ∧ cs ++ (chop width c.2.2.1).1 = (chop width text).1 ∧ (chop width c.2.2.1).2 = (chop width text).2 ∧ c.2.2.1.length + cs.length ≤ text.length) (fun c => c.2.2.1.length) (vs, k, text, tt) lF' lN' True.intro (by intro q hq; rcases List.mem_cons.mp hq with rfl | hq; with_unfolding_all exact rfl; nomatch hq) ⟨[], by simpa using hv, rfl, rfl, Nat.le_refl _⟩ ?_)
      | (with_unfolding_all refine ksw_while (σ := List Value × Nat × List Nat × Tok) (fun c => PL w.params pg dx o t1 t2 [] tr9 c.1 c.2.1 own) (fun c => [(Str.ofString "text", Value.str (T c.2.2.1) c.2.2.2)]) (fun _ => True) [] (fun c => ∃ cs, RowsAre c.1 ((rows ++ [row]) ++ cs) ∧ cs ++ (chop width c.2.2.1).1 = (chop width text).1 ∧ (chop width c.2.2.1).2 = (chop width text).2 ∧ c.2.2.1.length + cs.length ≤ text.length) (fun c => c.2.2.1.length) (vs9, k9, text, tt) lF' lN' True.intro (by intro q hq; rcases List.mem_cons.mp hq with rfl | hq; with_unfolding_all exact rfl; nomatch hq) ⟨[], by simpa using hv9, rfl, rfl, Nat.le_refl _⟩ ?_))
    clear lF' lN'
    refine prod4 ?_
    intro y1 y2 y3 y4 u h1' tk1 _ hI F1 N1
    refine exAnd4 hI ?_
    clear hI
    intro cs1 hR e1 e2 hl
    dsimp only at hR e1 e2 hl F1
    dsimp only [PL] at N1
    (have hlen1 := hR.len)
    (simp only [List.length_append, List.length_cons, List.length_nil] at hlen1)
    (try dsimp only)
    (try k_fold)
  refine wpAny_call ?_
  k_dflt cell_enter
  (try (refine nameL ?_; intro ak; refine nameE ?_; intro ev))
  repeat' (first | (k_unfold; (try dsimp only)) | walk1 | (dsimp only; walk1) | fail "no step")
  all_goals first
    | ((rename Fr _ _ _ _ => kF); (rename News _ _ _ _ => kN); (simp only [List.push_toArray] at kN)
       (refine' ksw_end (y1 ++ [_], y2 + 1, List.drop (width : Int).toNat y3, _) kF kN ?_ True.intro ?_ ?_ ?_ ?_)
       rotate_left 2
       · intro q hq; exact hq
       · intro q hq; rcases List.mem_cons.mp hq with rfl | hq; exact rfl; nomatch hq
       · intro z hz _; exact kst_same1 (hz _ (List.Mem.head _))
       · exact wt_turn _ hR e1 e2 hl (by (first | lia | omega)) (by (first | lia | omega))
       · simp only [List.length_drop]; (first | lia | omega))
    | ((rename Fr _ _ _ _ => kF); (rename News _ _ _ _ => kN)
       first
       | (obtain ⟨e3, e4⟩ := wt_done (p := (rows, row)) (rows := rows) (row := row) (by unfold broken; rw [if_neg (by simp only; (first | lia | omega))]) hR e1 e2 (by (first | lia | omega)); rw [e3] at kN; exact hret _ _ _ _ ⟨rfl, _, _, _, rfl, e4⟩ kF kN)
       | (obtain ⟨e3, e4⟩ := wt_done (p := (rows, row)) (rows := rows ++ [row]) (row := []) (by unfold broken endRow; rw [if_pos (by simp only; (first | lia | omega))]) hR e1 e2 (by (first | lia | omega)); rw [e3] at kN; exact hret _ _ _ _ ⟨rfl, _, _, _, rfl, e4⟩ kF kN))
end
end
/-! part E3 -/
section
theorem vint {a b : Int} {t : Tok} (h : a = b) : Value.int a t = Value.int b t := by rw [h]
theorem fmod_nat (a b : Nat) : Int.fmod (a : Int) (b : Int) = ((a % b : Nat) : Int) := by
  rw [Int.fmod_eq_emod_of_nonneg _ (by (first | lia | omega))]; exact (Int.natCast_emod _ _).symm
theorem fdiv_nat (a b : Nat) : Int.fdiv (a : Int) (b : Int) = ((a / b : Nat) : Int) := by
  rw [Int.fdiv_eq_ediv_of_nonneg _ (by (first | lia | omega))]; exact (Int.natCast_ediv _ _).symm
section
variable {prog : Program} {w : World} {p : Program} {loose : List Str} {mean : ExcName → Option Value} {mg mb : Str → Option Value}
theorem within_row_ok (many : Int) (width : Nat) (tm tw : Tok) (news : Ledger) (h0 : 0 ≤ many) (hm : many ≤ 255) (hw : width ≤ 1000) :
  Ctr prog w p loose mean mg mb 86 1 [.int many tm, .int (width : Int) tw] news
    (fun v news' => ∃ t, v = .int (within many.toNat width : Nat) t ∧ news' = news) := by
  refine Ctr.of ?_
  intro dp un gd cn cs a ccd cl outer A₀ base h₀ L m hp gn dr tk0 os0 Q E B F X N Tp hk hdp hun hret
  (try dsimp only [PL] at N hret)
  w_on
  k_with_none
  k_with "call builtin:list.append" =>
    (k_here; (show wpAny _ _ (call (Value.builtin "list.append") [Value.ref _, _]) _ _ _); k_dflt (refine' append_K ?y1k1 ?y1k2 ?y1k3 ?_ ?y1z; (case y1k1 => k_asm); (case y1k2 => k_asm); (case y1k3 => k_upd); (case y1z => first | size_fits | (simp only [List.size_toArray, sizeLine_eq]; (first | lia | omega))); k_whole); intro h' F' N'; (try k_sweep))
  k_with "call builtin:len" =>
    ((with_reducible show wpAny _ _ (call (Value.builtin "len") [Value.str _ _]) _ _ _); (refine' len_X ?y2kx ?y2kz ?_; (case y2kx => first | exact rfl | exact T_nil | exact T_blank); (case y2kz => first | (first | lia | omega) | ((try simp only [List.length_append, List.length_replicate, List.length_nil, List.length_cons, List.length_take, List.length_drop]); (first | lia | omega))); k_whole))
  k_with "binaryOp Add str str" =>
    ((with_reducible show wpAny _ _ (binaryOp Operator.Add (Value.str _ _) (Value.str _ _)) _ _ _); (refine' add_X ?y3kx ?y3ky ?y3kz ?_; (case y3kx => first | exact rfl | exact T_nil | exact T_blank); (case y3ky => first | exact rfl | exact T_nil | exact T_blank); (case y3kz => first | (first | lia | omega) | ((try simp only [List.length_append, List.length_replicate, List.length_nil, List.length_cons, List.length_take, List.length_drop]); (first | lia | omega))); k_whole); intro _ _)
  k_with "compareOp Eq str str" =>
    ((with_reducible show wpAny _ _ (compareOp CmpOp.Eq (Value.str (T _) _) (Value.str _ _)) _ _ _); (refine' eq_X ?y4kx ?y4ky ?_; (case y4kx => first | exact rfl | exact T_nil | exact T_blank); (case y4ky => first | exact rfl | exact T_nil | exact T_blank); k_whole))
  k_with "compareOp Eq str str" =>
    ((with_reducible show wpAny _ _ (compareOp CmpOp.Eq (Value.str _ _) (Value.str (T _) _)) _ _ _); (refine' eq_X ?y5kx ?y5ky ?_; (case y5kx => first | exact rfl | exact T_nil | exact T_blank); (case y5ky => first | exact rfl | exact T_nil | exact T_blank); k_whole))
  k_with "compareOp NotEq str str" =>
    ((with_reducible show wpAny _ _ (compareOp CmpOp.NotEq (Value.str (T _) _) (Value.str _ _)) _ _ _); (refine' ne_X ?y6kx ?y6ky ?_; (case y6kx => first | exact rfl | exact T_nil | exact T_blank); (case y6ky => first | exact rfl | exact T_nil | exact T_blank); k_whole))
  k_with "compareOp NotEq str str" =>
    ((with_reducible show wpAny _ _ (compareOp CmpOp.NotEq (Value.str _ _) (Value.str (T _) _)) _ _ _); (refine' ne_X ?y7kx ?y7ky ?_; (case y7kx => first | exact rfl | exact T_nil | exact T_blank); (case y7ky => first | exact rfl | exact T_nil | exact T_blank); k_whole))
  k_with "binaryOp Mult str int" =>
    ((with_reducible show wpAny _ _ (binaryOp Operator.Mult (Value.str _ _) (Value.int _ _)) _ _ _); (refine' mul_X ?y8kx ?y8k0 ?y8kn ?_; (case y8kx => first | exact rfl | exact T_blank); (case y8k0 => first | (first | lia | omega) | (simp only [List.length_nil]; (first | lia | omega))); (case y8kn => first | (first | lia | omega) | (simp only [List.length_nil]; (first | lia | omega))); k_whole); intro _ _)
  k_with "subscriptTail Name Slice str ref" =>
    ((with_reducible show wpAny _ _ (subscriptTail _ (PySem.Expr.Slice none (some _) none _) (Value.str (T _) _) _) _ _ _); (with_reducible rename Fr _ _ _ _ => F'); (with_reducible rename News _ _ _ _ => N'); (refine' take_T (s := ⟨_, _, _, _, _⟩) ?y9k0 ?y9k1 ?y9kz F' N' ?_ ?y9ks ?y9kt; (case y9k0 => (first | lia | omega)); (case y9k1 => (first | lia | omega)); (case y9kz => (first | lia | omega)); (case y9ks => with_unfolding_all rfl); (case y9kt => intro _; with_unfolding_all rfl); k_whole); intro h' _ _ F' N')
  k_with "subscriptTail Name Slice str ref" =>
    ((with_reducible show wpAny _ _ (subscriptTail _ (PySem.Expr.Slice (some _) none none _) (Value.str (T _) _) _) _ _ _); (with_reducible rename Fr _ _ _ _ => F'); (with_reducible rename News _ _ _ _ => N'); (refine' drop_T (s := ⟨_, _, _, _, _⟩) ?y10k0 ?y10k1 ?y10kz F' N' ?_ ?y10ks ?y10kt; (case y10k0 => (first | lia | omega)); (case y10k1 => (first | lia | omega)); (case y10kz => (first | lia | omega)); (case y10ks => with_unfolding_all rfl); (case y10kt => intro _; with_unfolding_all rfl); k_whole); intro h' _ _ F' N')
  k_with "call ref" =>
    k_dflt (k_extra "my call")
  k_with "exec While" =>
    k_dflt (k_extra "my while")
  k_with "exec For" =>
    k_dflt (k_extra "my for")
  k_with "pyIter ref" =>
    k_dflt (k_extra "my iter")
  k_with "subscriptTail Name Constant ref int" =>
    k_dflt (k_extra "my item")
  k_with "binaryOp Add ref ref" =>
    (k_here; (show wpAny _ _ (binaryOp Operator.Add (Value.ref _) (Value.ref _)) _ _ _); k_dflt (refine' add_L ?y16k1 ?y16k2 ?y16k3 ?y16k4 ?_ ?y16z; (case y16k1 => k_asm); (case y16k2 => k_asm); (case y16k3 => k_mem); (case y16k4 => k_mem); (case y16z => first | (first | lia | omega) | (simp only [List.length_cons, List.length_nil, List.length_append]; (first | lia | omega))); k_whole); intro c9 h9 F9 N9 l9; (have lA := allLt_of l9); (try k_lt l9); (try dsimp only [List.append_nil, List.nil_append, List.cons_append] at N9); (try k_sweep))
  k_with "subscriptTail Constant" =>
    ((with_reducible show wpAny _ _ (subscriptTail _ (PySem.Expr.Slice (some _) (some _) none _) (Value.str (Str.ofString "abcdefghijklmnopqrst") _) _) _ _ _); (with_reducible rename Fr _ _ _ _ => F'); (with_reducible rename News _ _ _ _ => N'); (refine' cut_X (s := ⟨_, _, _, _, _⟩) alpha_T ?y17k0 ?y17k1 ?y17k2 ?y17kz F' N' ?_ ?y17ks ?y17kt; (case y17k0 => (first | lia | omega)); (case y17k1 => (first | lia | omega)); (case y17k2 => rw [List.length_range']; (first | lia | omega)); (case y17kz => rw [List.length_range']; decide); (case y17ks => with_unfolding_all rfl); (case y17kt => intro _; with_unfolding_all rfl); k_whole); intro h' _ _ F' N')
  k_with "subscriptTail Attribute" =>
    k_dflt (k_extra "my item2")
  k_with "call builtin:len" =>
    (k_here; (with_reducible show wpAny _ _ (call (Value.builtin "len") [Value.ref _]) _ _ _); k_dflt (refine' len_L ?y19k1 ?y19k2 ?y19z ?_; (case y19k1 => k_asm); (case y19k2 => first | k_mem | ((repeat' (first | assumption | refine List.mem_cons_of_mem _ ?_)); done)); (case y19z => first | (first | lia | omega) | ((try simp only [List.length_append, List.length_nil, List.length_cons]); (first | lia | omega))); k_whole))
  k_with "subscriptTail Attribute BinOp ref int" =>
    k_dflt (k_extra "my item2")
  k_with "eval ListComp" =>
    k_dflt (k_extra "my comp")
  k_with "CompSrc" =>
    k_dflt (k_extra "my src")
  k_with "CompSrcT" =>
    k_dflt (k_extra "my srcT")
  k_with "SrcLP" =>
    k_dflt (k_extra "my srcP")
  k_with "CompEnd" =>
    k_dflt (k_extra "my end")
  k_with "k_ne" =>
    first | with_reducible assumption | exact Ne.symm (by with_reducible assumption) | exact Nat.ne_of_lt (by with_reducible assumption) | exact Nat.ne_of_gt (by with_reducible assumption) | exact neL0 (by with_reducible assumption) | exact neR0 (by with_reducible assumption) | exact neL1 (by with_reducible assumption) | exact neR1 (by with_reducible assumption) | exact neL2 (by with_reducible assumption) | exact neR2 (by with_reducible assumption) | exact neL3 (by with_reducible assumption) | exact neR3 (by with_reducible assumption) | exact neL4 (by with_reducible assumption) | exact neR4 (by with_reducible assumption) | exact neL5 (by with_reducible assumption) | exact neR5 (by with_reducible assumption) | exact neL6 (by with_reducible assumption) | exact neR6 (by with_reducible assumption) | exact neL7 (by with_reducible assumption) | exact neR7 (by with_reducible assumption) | exact neL8 (by with_reducible assumption) | exact neR8 (by with_reducible assumption) | exact neL9 (by with_reducible assumption) | exact neR9 (by with_reducible assumption) | exact neL10 (by with_reducible assumption) | exact neR10 (by with_reducible assumption) | exact neL11 (by with_reducible assumption) | exact neR11 (by with_reducible assumption) | exact neL12 (by with_reducible assumption) | exact neR12 (by with_reducible assumption) | exact neL13 (by with_reducible assumption) | exact neR13 (by with_reducible assumption) | exact neTL0 (by with_reducible assumption) (by with_reducible assumption) | exact neTR0 (by with_reducible assumption) (by with_reducible assumption) | exact neTL1 (by with_reducible assumption) (by with_reducible assumption) | exact neTR1 (by with_reducible assumption) (by with_reducible assumption) | exact neTL2 (by with_reducible assumption) (by with_reducible assumption) | exact neTR2 (by with_reducible assumption) (by with_reducible assumption) | exact neTL3 (by with_reducible assumption) (by with_reducible assumption) | exact neTR3 (by with_reducible assumption) (by with_reducible assumption) | exact neTL4 (by with_reducible assumption) (by with_reducible assumption) | exact neTR4 (by with_reducible assumption) (by with_reducible assumption) | exact neTL5 (by with_reducible assumption) (by with_reducible assumption) | exact neTR5 (by with_reducible assumption) (by with_reducible assumption) | exact neTL6 (by with_reducible assumption) (by with_reducible assumption) | exact neTR6 (by with_reducible assumption) (by with_reducible assumption) | exact neTL7 (by with_reducible assumption) (by with_reducible assumption) | exact neTR7 (by with_reducible assumption) (by with_reducible assumption) | exact neTL8 (by with_reducible assumption) (by with_reducible assumption) | exact neTR8 (by with_reducible assumption) (by with_reducible assumption) | exact neTL9 (by with_reducible assumption) (by with_reducible assumption) | exact neTR9 (by with_reducible assumption) (by with_reducible assumption) | exact neQ0 (by with_reducible assumption) | exact Ne.symm (neQ0 (by with_reducible assumption)) | exact neQ1 (by with_reducible assumption) | exact Ne.symm (neQ1 (by with_reducible assumption)) | exact neQ2 (by with_reducible assumption) | exact Ne.symm (neQ2 (by with_reducible assumption)) | exact neQ3 (by with_reducible assumption) | exact Ne.symm (neQ3 (by with_reducible assumption)) | exact neQ4 (by with_reducible assumption) | exact Ne.symm (neQ4 (by with_reducible assumption)) | exact neQ5 (by with_reducible assumption) | exact Ne.symm (neQ5 (by with_reducible assumption)) | exact neQ6 (by with_reducible assumption) | exact Ne.symm (neQ6 (by with_reducible assumption)) | exact neQ7 (by with_reducible assumption) | exact Ne.symm (neQ7 (by with_reducible assumption)) | exact neQ8 (by with_reducible assumption) | exact Ne.symm (neQ8 (by with_reducible assumption)) | exact neQ9 (by with_reducible assumption) | exact Ne.symm (neQ9 (by with_reducible assumption))
  refine wpAny_call ?_
  k_dflt cell_enter
  (try (refine nameL ?_; intro ak; refine nameE ?_; intro ev))
  repeat' (first | (k_unfold; (try dsimp only)) | walk1 | (dsimp only; walk1) | fail "no step")
  all_goals (rename Fr _ _ _ _ => kF)
  all_goals (rename News _ _ _ _ => kN)
  · refine hret _ _ _ _ ⟨_, vint ?_, rfl⟩ kF kN
    rw [within, if_pos (by (first | lia | omega)), ← fmod_nat, Int.toNat_of_nonneg h0]
  · refine hret _ _ _ _ ⟨_, vint ?_, rfl⟩ kF kN
    rw [within, if_neg (by (first | lia | omega)), Int.toNat_of_nonneg h0]
theorem write_blanks_ok (pg dx o : Addr) (t1 t2 tr : Tok) (row : List Nat) (rows : List (List Nat)) (vs : List Value) (k : Nat) (own : Ledger) (h1 : @Ne Nat pg dx) (h2 : @Ne Nat pg o) (h3 : @Ne Nat dx o) (ho : OwnOff own [pg, dx, o]) (hv : RowsAre vs rows) (hsz : rows.length ≤ 10000) (hr : row.length ≤ 10000) (many width : Nat) (tm tw : Tok) (hm : many ≤ 255) (hw : width ≤ 1000) :
  Ctr prog w p loose mean mg mb 93 3 [.ref pg, .int (many : Int) tm, .int (width : Int) tw]
    (PL w.params pg dx o t1 t2 row tr vs k own)
    (fun v news' => v = .none ∧ ∃ (tr' : Tok) (vs' : List Value) (k' : Nat), news' = PL w.params pg dx o t1 t2 (writeBlanks many width (rows, row)).2 tr' vs' k' own ∧ RowsAre vs' (writeBlanks many width (rows, row)).1) := by
  have hwi := within_le many width
  have hwj := within_le (many : Int).toNat width
  refine Ctr.of ?_
  intro dp un gd cn cs a ccd cl outer A₀ base h₀ L m hp gn dr tk0 os0 Q E B F X N Tp hk hdp hun hret
  (try dsimp only [PL] at N hret)
  w_on
  k_with_none
  k_with "call builtin:list.append" =>
    (k_here; (show wpAny _ _ (call (Value.builtin "list.append") [Value.ref _, _]) _ _ _); k_dflt (refine' append_K ?y1k1 ?y1k2 ?y1k3 ?_ ?y1z; (case y1k1 => k_asm); (case y1k2 => k_asm); (case y1k3 => k_upd); (case y1z => first | size_fits | (simp only [List.size_toArray, sizeLine_eq]; (first | lia | omega))); k_whole); intro h' F' N'; (try k_sweep))
  k_with "call builtin:len" =>
    ((with_reducible show wpAny _ _ (call (Value.builtin "len") [Value.str _ _]) _ _ _); (refine' len_X ?y2kx ?y2kz ?_; (case y2kx => first | exact rfl | exact T_nil | exact T_blank); (case y2kz => first | (first | lia | omega) | ((try simp only [List.length_append, List.length_replicate, List.length_nil, List.length_cons, List.length_take, List.length_drop]); (first | lia | omega))); k_whole))
  k_with "binaryOp Add str str" =>
    ((with_reducible show wpAny _ _ (binaryOp Operator.Add (Value.str _ _) (Value.str _ _)) _ _ _); (refine' add_X ?y3kx ?y3ky ?y3kz ?_; (case y3kx => first | exact rfl | exact T_nil | exact T_blank); (case y3ky => first | exact rfl | exact T_nil | exact T_blank); (case y3kz => first | (first | lia | omega) | ((try simp only [List.length_append, List.length_replicate, List.length_nil, List.length_cons, List.length_take, List.length_drop]); (first | lia | omega))); k_whole); intro _ _)
  k_with "compareOp Eq str str" =>
    ((with_reducible show wpAny _ _ (compareOp CmpOp.Eq (Value.str (T _) _) (Value.str _ _)) _ _ _); (refine' eq_X ?y4kx ?y4ky ?_; (case y4kx => first | exact rfl | exact T_nil | exact T_blank); (case y4ky => first | exact rfl | exact T_nil | exact T_blank); k_whole))
  k_with "compareOp Eq str str" =>
    ((with_reducible show wpAny _ _ (compareOp CmpOp.Eq (Value.str _ _) (Value.str (T _) _)) _ _ _); (refine' eq_X ?y5kx ?y5ky ?_; (case y5kx => first | exact rfl | exact T_nil | exact T_blank); (case y5ky => first | exact rfl | exact T_nil | exact T_blank); k_whole))
  k_with "compareOp NotEq str str" =>
    ((with_reducible show wpAny _ _ (compareOp CmpOp.NotEq (Value.str (T _) _) (Value.str _ _)) _ _ _); (refine' ne_X ?y6kx ?y6ky ?_; (case y6kx => first | exact rfl | exact T_nil | exact T_blank); (case y6ky => first | exact rfl | exact T_nil | exact T_blank); k_whole))
  k_with "compareOp NotEq str str" =>
    ((with_reducible show wpAny _ _ (compareOp CmpOp.NotEq (Value.str _ _) (Value.str (T _) _)) _ _ _); (refine' ne_X ?y7kx ?y7ky ?_; (case y7kx => first | exact rfl | exact T_nil | exact T_blank); (case y7ky => first | exact rfl | exact T_nil | exact T_blank); k_whole))
  k_with "binaryOp Mult str int" =>
    ((with_reducible show wpAny _ _ (binaryOp Operator.Mult (Value.str _ _) (Value.int _ _)) _ _ _); (refine' mul_X ?y8kx ?y8k0 ?y8kn ?_; (case y8kx => first | exact rfl | exact T_blank); (case y8k0 => first | (first | lia | omega) | (simp only [List.length_nil]; (first | lia | omega))); (case y8kn => first | (first | lia | omega) | (simp only [List.length_nil]; (first | lia | omega))); k_whole); intro _ _)
  k_with "subscriptTail Name Slice str ref" =>
    ((with_reducible show wpAny _ _ (subscriptTail _ (PySem.Expr.Slice none (some _) none _) (Value.str (T _) _) _) _ _ _); (with_reducible rename Fr _ _ _ _ => F'); (with_reducible rename News _ _ _ _ => N'); (refine' take_T (s := ⟨_, _, _, _, _⟩) ?y9k0 ?y9k1 ?y9kz F' N' ?_ ?y9ks ?y9kt; (case y9k0 => (first | lia | omega)); (case y9k1 => (first | lia | omega)); (case y9kz => (first | lia | omega)); (case y9ks => with_unfolding_all rfl); (case y9kt => intro _; with_unfolding_all rfl); k_whole); intro h' _ _ F' N')
  k_with "subscriptTail Name Slice str ref" =>
    ((with_reducible show wpAny _ _ (subscriptTail _ (PySem.Expr.Slice (some _) none none _) (Value.str (T _) _) _) _ _ _); (with_reducible rename Fr _ _ _ _ => F'); (with_reducible rename News _ _ _ _ => N'); (refine' drop_T (s := ⟨_, _, _, _, _⟩) ?y10k0 ?y10k1 ?y10kz F' N' ?_ ?y10ks ?y10kt; (case y10k0 => (first | lia | omega)); (case y10k1 => (first | lia | omega)); (case y10kz => (first | lia | omega)); (case y10ks => with_unfolding_all rfl); (case y10kt => intro _; with_unfolding_all rfl); k_whole); intro h' _ _ F' N')
  k_with "call ref" =>
    k_dflt (k_extra "my call")
  k_with "exec While" =>
    k_dflt (k_extra "my while")
  k_with "exec For" =>
    k_dflt (k_extra "my for")
  k_with "pyIter ref" =>
    k_dflt (k_extra "my iter")
  k_with "subscriptTail Name Constant ref int" =>
    k_dflt (k_extra "my item")
  k_with "binaryOp Add ref ref" =>
    (k_here; (show wpAny _ _ (binaryOp Operator.Add (Value.ref _) (Value.ref _)) _ _ _); k_dflt (refine' add_L ?y16k1 ?y16k2 ?y16k3 ?y16k4 ?_ ?y16z; (case y16k1 => k_asm); (case y16k2 => k_asm); (case y16k3 => k_mem); (case y16k4 => k_mem); (case y16z => first | (first | lia | omega) | (simp only [List.length_cons, List.length_nil, List.length_append]; (first | lia | omega))); k_whole); intro c9 h9 F9 N9 l9; (have lA := allLt_of l9); (try k_lt l9); (try dsimp only [List.append_nil, List.nil_append, List.cons_append] at N9); (try k_sweep))
  k_with "subscriptTail Constant" =>
    ((with_reducible show wpAny _ _ (subscriptTail _ (PySem.Expr.Slice (some _) (some _) none _) (Value.str (Str.ofString "abcdefghijklmnopqrst") _) _) _ _ _); (with_reducible rename Fr _ _ _ _ => F'); (with_reducible rename News _ _ _ _ => N'); (refine' cut_X (s := ⟨_, _, _, _, _⟩) alpha_T ?y17k0 ?y17k1 ?y17k2 ?y17kz F' N' ?_ ?y17ks ?y17kt; (case y17k0 => (first | lia | omega)); (case y17k1 => (first | lia | omega)); (case y17k2 => rw [List.length_range']; (first | lia | omega)); (case y17kz => rw [List.length_range']; decide); (case y17ks => with_unfolding_all rfl); (case y17kt => intro _; with_unfolding_all rfl); k_whole); intro h' _ _ F' N')
  k_with "subscriptTail Attribute" =>
    k_dflt (k_extra "my item2")
  k_with "call builtin:len" =>
    (k_here; (with_reducible show wpAny _ _ (call (Value.builtin "len") [Value.ref _]) _ _ _); k_dflt (refine' len_L ?y19k1 ?y19k2 ?y19z ?_; (case y19k1 => k_asm); (case y19k2 => first | k_mem | ((repeat' (first | assumption | refine List.mem_cons_of_mem _ ?_)); done)); (case y19z => first | (first | lia | omega) | ((try simp only [List.length_append, List.length_nil, List.length_cons]); (first | lia | omega))); k_whole))
  k_with "subscriptTail Attribute BinOp ref int" =>
    k_dflt (k_extra "my item2")
  k_with "eval ListComp" =>
    k_dflt (k_extra "my comp")
  k_with "CompSrc" =>
    k_dflt (k_extra "my src")
  k_with "CompSrcT" =>
    k_dflt (k_extra "my srcT")
  k_with "SrcLP" =>
    k_dflt (k_extra "my srcP")
  k_with "CompEnd" =>
    k_dflt (k_extra "my end")
  k_with "k_ne" =>
    first | with_reducible assumption | exact Ne.symm (by with_reducible assumption) | exact Nat.ne_of_lt (by with_reducible assumption) | exact Nat.ne_of_gt (by with_reducible assumption) | exact neL0 (by with_reducible assumption) | exact neR0 (by with_reducible assumption) | exact neL1 (by with_reducible assumption) | exact neR1 (by with_reducible assumption) | exact neL2 (by with_reducible assumption) | exact neR2 (by with_reducible assumption) | exact neL3 (by with_reducible assumption) | exact neR3 (by with_reducible assumption) | exact neL4 (by with_reducible assumption) | exact neR4 (by with_reducible assumption) | exact neL5 (by with_reducible assumption) | exact neR5 (by with_reducible assumption) | exact neL6 (by with_reducible assumption) | exact neR6 (by with_reducible assumption) | exact neL7 (by with_reducible assumption) | exact neR7 (by with_reducible assumption) | exact neL8 (by with_reducible assumption) | exact neR8 (by with_reducible assumption) | exact neL9 (by with_reducible assumption) | exact neR9 (by with_reducible assumption) | exact neL10 (by with_reducible assumption) | exact neR10 (by with_reducible assumption) | exact neL11 (by with_reducible assumption) | exact neR11 (by with_reducible assumption) | exact neL12 (by with_reducible assumption) | exact neR12 (by with_reducible assumption) | exact neL13 (by with_reducible assumption) | exact neR13 (by with_reducible assumption) | exact neTL0 (by with_reducible assumption) (by with_reducible assumption) | exact neTR0 (by with_reducible assumption) (by with_reducible assumption) | exact neTL1 (by with_reducible assumption) (by with_reducible assumption) | exact neTR1 (by with_reducible assumption) (by with_reducible assumption) | exact neTL2 (by with_reducible assumption) (by with_reducible assumption) | exact neTR2 (by with_reducible assumption) (by with_reducible assumption) | exact neTL3 (by with_reducible assumption) (by with_reducible assumption) | exact neTR3 (by with_reducible assumption) (by with_reducible assumption) | exact neTL4 (by with_reducible assumption) (by with_reducible assumption) | exact neTR4 (by with_reducible assumption) (by with_reducible assumption) | exact neTL5 (by with_reducible assumption) (by with_reducible assumption) | exact neTR5 (by with_reducible assumption) (by with_reducible assumption) | exact neTL6 (by with_reducible assumption) (by with_reducible assumption) | exact neTR6 (by with_reducible assumption) (by with_reducible assumption) | exact neTL7 (by with_reducible assumption) (by with_reducible assumption) | exact neTR7 (by with_reducible assumption) (by with_reducible assumption) | exact neTL8 (by with_reducible assumption) (by with_reducible assumption) | exact neTR8 (by with_reducible assumption) (by with_reducible assumption) | exact neTL9 (by with_reducible assumption) (by with_reducible assumption) | exact neTR9 (by with_reducible assumption) (by with_reducible assumption) | exact neQ0 (by with_reducible assumption) | exact Ne.symm (neQ0 (by with_reducible assumption)) | exact neQ1 (by with_reducible assumption) | exact Ne.symm (neQ1 (by with_reducible assumption)) | exact neQ2 (by with_reducible assumption) | exact Ne.symm (neQ2 (by with_reducible assumption)) | exact neQ3 (by with_reducible assumption) | exact Ne.symm (neQ3 (by with_reducible assumption)) | exact neQ4 (by with_reducible assumption) | exact Ne.symm (neQ4 (by with_reducible assumption)) | exact neQ5 (by with_reducible assumption) | exact Ne.symm (neQ5 (by with_reducible assumption)) | exact neQ6 (by with_reducible assumption) | exact Ne.symm (neQ6 (by with_reducible assumption)) | exact neQ7 (by with_reducible assumption) | exact Ne.symm (neQ7 (by with_reducible assumption)) | exact neQ8 (by with_reducible assumption) | exact Ne.symm (neQ8 (by with_reducible assumption)) | exact neQ9 (by with_reducible assumption) | exact Ne.symm (neQ9 (by with_reducible assumption))
  k_with "my call" =>
    (show wpAny _ _ (call (Value.ref 86) [_, _]) _ _ _)
    (with_reducible rename News _ _ _ _ => kN)
    (with_unfolding_all refine Ctr.useI (within_row_ok _ _ _ _ _ (by first | with_reducible assumption | exact Nat.le_trans (by with_reducible assumption) (by decide) | (first | lia | omega) | (simp only [List.length_append, List.length_cons, List.length_nil, List.length_replicate]; (first | lia | omega))) (by first | with_reducible assumption | exact Nat.le_trans (by with_reducible assumption) (by decide) | (first | lia | omega) | (simp only [List.length_append, List.length_cons, List.length_nil, List.length_replicate]; (first | lia | omega))) (by first | with_reducible assumption | exact Nat.le_trans (by with_reducible assumption) (by decide) | (first | lia | omega) | (simp only [List.length_append, List.length_cons, List.length_nil, List.length_replicate]; (first | lia | omega)))) (by k_asm) (by k_asm) (by k_asm) kN (by k_asm) (by first | exact rfl | assumption) (by (first | exact roomL (by with_reducible assumption) (by rfl) | exact roomL (by assumption) (by rfl) | ktr_room | ((dsimp only [ak]); ktr_room))) (by (first | exact roomU (by with_reducible assumption) (by rfl) | exact roomU (by assumption) (by rfl) | ktr_units | ((dsimp only [ak]); ktr_units))) ?_)
    clear kN
    intro t9 h9 tk9 F9 N9
    (try dsimp only [PL] at N9)
    (try dsimp only)
    (try k_sweep)
  k_with "my call" =>
    (show wpAny _ _ (call (Value.ref 72) [_, _, _]) _ _ _)
    (with_reducible rename News _ _ _ _ => kN)
    (with_unfolding_all refine Ctr.useP (write_text_ok _ _ _ _ _ _ _ _ _ _ _ _ _ _ _ (by assumption) (by assumption) (by assumption) (by assumption) (by assumption) (by first | with_reducible assumption | exact Nat.le_trans (by with_reducible assumption) (by decide) | (first | lia | omega) | (simp only [List.length_append, List.length_cons, List.length_nil, List.length_replicate]; (first | lia | omega))) (by first | with_reducible assumption | exact Nat.le_trans (by with_reducible assumption) (by decide) | (first | lia | omega) | (simp only [List.length_append, List.length_cons, List.length_nil, List.length_replicate]; (first | lia | omega))) (by first | with_reducible assumption | exact Nat.le_trans (by with_reducible assumption) (by decide) | (first | lia | omega) | (simp only [List.length_append, List.length_cons, List.length_nil, List.length_replicate]; (first | lia | omega))) (by first | (first | lia | omega) | (simp only [List.length_replicate]; (first | lia | omega)))) (by k_asm) (by k_asm) (by k_asm) kN (by k_asm) (by first | exact rfl | assumption) (by (first | exact roomL (by with_reducible assumption) (by rfl) | exact roomL (by assumption) (by rfl) | ktr_room | ((dsimp only [ak]); ktr_room))) (by (first | exact roomU (by with_reducible assumption) (by rfl) | exact roomU (by assumption) (by rfl) | ktr_units | ((dsimp only [ak]); ktr_units))) ?_)
    clear kN
    intro tr9 vs9 k9 h9 tk9 hv9 F9 N9
    (try dsimp only [PL] at N9)
    (try dsimp only)
    (try k_sweep)
  refine wpAny_call ?_
  k_dflt cell_enter
  (try (refine nameL ?_; intro ak; refine nameE ?_; intro ev))
  repeat' (first | (k_unfold; (try dsimp only)) | walk1 | (dsimp only; walk1) | fail "no step")
  all_goals (rename Fr _ _ _ _ => kF)
  all_goals (rename News _ _ _ _ => kN)
  simp only [Int.toNat_natCast] at kN hv9
  exact hret _ _ _ _ ⟨rfl, _, _, _, rfl, hv9⟩ kF kN
theorem zone_int (n zone : Nat) : (Int.fdiv (n : Int) (zone : Int) + 1) * (zone : Int) = (((n / zone + 1) * zone : Nat) : Int) := by
  rw [fdiv_nat, Int.natCast_mul, Int.natCast_add]; rfl
theorem zone_bounds (n zone : Nat) (h : 1 ≤ zone) : n < (n / zone + 1) * zone ∧ (n / zone + 1) * zone ≤ n + zone := by
  have h1 := Nat.div_add_mod n zone
  have h2 := Nat.mod_lt n (show zone > 0 by (first | lia | omega))
  have h3 : (n / zone + 1) * zone = zone * (n / zone) + zone := by rw [Nat.add_mul, Nat.one_mul, Nat.mul_comm]
  rw [h3]
  constructor <;> (first | lia | omega)
theorem write_zone_ok (pg dx o : Addr) (t1 t2 tr : Tok) (row : List Nat) (rows : List (List Nat)) (vs : List Value) (k : Nat) (own : Ledger) (h1 : @Ne Nat pg dx) (h2 : @Ne Nat pg o) (h3 : @Ne Nat dx o) (ho : OwnOff own [pg, dx, o]) (hv : RowsAre vs rows) (hsz : rows.length ≤ 10000) (hr : row.length ≤ 10000) (zone width : Nat) (tz tw : Tok) (hz : 1 ≤ zone) (hz2 : zone ≤ 20) (hw : width ≤ 1000) :
  Ctr prog w p loose mean mg mb 79 2 [.ref pg, .int (zone : Int) tz, .int (width : Int) tw]
    (PL w.params pg dx o t1 t2 row tr vs k own)
    (fun v news' => v = .none ∧ ∃ (tr' : Tok) (vs' : List Value) (k' : Nat), news' = PL w.params pg dx o t1 t2 (writeZone zone width (rows, row)).2 tr' vs' k' own ∧ RowsAre vs' (writeZone zone width (rows, row)).1) := by
  have hz3 := zone_int row.length zone
  obtain ⟨hz4, hz5⟩ := zone_bounds row.length zone hz
  generalize hc : (row.length / zone + 1) * zone = c at hz3 hz4 hz5
  refine Ctr.of ?_
  intro dp un gd cn cs a ccd cl outer A₀ base h₀ L m hp gn dr tk0 os0 Q E B F X N Tp hk hdp hun hret
  (try dsimp only [PL] at N hret)
  w_on
  k_with_none
  k_with "call builtin:list.append" =>
    (k_here; (show wpAny _ _ (call (Value.builtin "list.append") [Value.ref _, _]) _ _ _); k_dflt (refine' append_K ?y1k1 ?y1k2 ?y1k3 ?_ ?y1z; (case y1k1 => k_asm); (case y1k2 => k_asm); (case y1k3 => k_upd); (case y1z => first | size_fits | (simp only [List.size_toArray, sizeLine_eq]; (first | lia | omega))); k_whole); intro h' F' N'; (try k_sweep))
  k_with "call builtin:len" =>
    ((with_reducible show wpAny _ _ (call (Value.builtin "len") [Value.str _ _]) _ _ _); (refine' len_X ?y2kx ?y2kz ?_; (case y2kx => first | exact rfl | exact T_nil | exact T_blank); (case y2kz => first | (first | lia | omega) | ((try simp only [List.length_append, List.length_replicate, List.length_nil, List.length_cons, List.length_take, List.length_drop]); (first | lia | omega))); k_whole))
  k_with "binaryOp Add str str" =>
    ((with_reducible show wpAny _ _ (binaryOp Operator.Add (Value.str _ _) (Value.str _ _)) _ _ _); (refine' add_X ?y3kx ?y3ky ?y3kz ?_; (case y3kx => first | exact rfl | exact T_nil | exact T_blank); (case y3ky => first | exact rfl | exact T_nil | exact T_blank); (case y3kz => first | (first | lia | omega) | ((try simp only [List.length_append, List.length_replicate, List.length_nil, List.length_cons, List.length_take, List.length_drop]); (first | lia | omega))); k_whole); intro _ _)
  k_with "compareOp Eq str str" =>
    ((with_reducible show wpAny _ _ (compareOp CmpOp.Eq (Value.str (T _) _) (Value.str _ _)) _ _ _); (refine' eq_X ?y4kx ?y4ky ?_; (case y4kx => first | exact rfl | exact T_nil | exact T_blank); (case y4ky => first | exact rfl | exact T_nil | exact T_blank); k_whole))
  k_with "compareOp Eq str str" =>
    ((with_reducible show wpAny _ _ (compareOp CmpOp.Eq (Value.str _ _) (Value.str (T _) _)) _ _ _); (refine' eq_X ?y5kx ?y5ky ?_; (case y5kx => first | exact rfl | exact T_nil | exact T_blank); (case y5ky => first | exact rfl | exact T_nil | exact T_blank); k_whole))
  k_with "compareOp NotEq str str" =>
    ((with_reducible show wpAny _ _ (compareOp CmpOp.NotEq (Value.str (T _) _) (Value.str _ _)) _ _ _); (refine' ne_X ?y6kx ?y6ky ?_; (case y6kx => first | exact rfl | exact T_nil | exact T_blank); (case y6ky => first | exact rfl | exact T_nil | exact T_blank); k_whole))
  k_with "compareOp NotEq str str" =>
    ((with_reducible show wpAny _ _ (compareOp CmpOp.NotEq (Value.str _ _) (Value.str (T _) _)) _ _ _); (refine' ne_X ?y7kx ?y7ky ?_; (case y7kx => first | exact rfl | exact T_nil | exact T_blank); (case y7ky => first | exact rfl | exact T_nil | exact T_blank); k_whole))
  k_with "binaryOp Mult str int" =>
    ((with_reducible show wpAny _ _ (binaryOp Operator.Mult (Value.str _ _) (Value.int _ _)) _ _ _); (refine' mul_X ?y8kx ?y8k0 ?y8kn ?_; (case y8kx => first | exact rfl | exact T_blank); (case y8k0 => first | (first | lia | omega) | (simp only [List.length_nil]; (first | lia | omega))); (case y8kn => first | (first | lia | omega) | (simp only [List.length_nil]; (first | lia | omega))); k_whole); intro _ _)
  k_with "subscriptTail Name Slice str ref" =>
    ((with_reducible show wpAny _ _ (subscriptTail _ (PySem.Expr.Slice none (some _) none _) (Value.str (T _) _) _) _ _ _); (with_reducible rename Fr _ _ _ _ => F'); (with_reducible rename News _ _ _ _ => N'); (refine' take_T (s := ⟨_, _, _, _, _⟩) ?y9k0 ?y9k1 ?y9kz F' N' ?_ ?y9ks ?y9kt; (case y9k0 => (first | lia | omega)); (case y9k1 => (first | lia | omega)); (case y9kz => (first | lia | omega)); (case y9ks => with_unfolding_all rfl); (case y9kt => intro _; with_unfolding_all rfl); k_whole); intro h' _ _ F' N')
  k_with "subscriptTail Name Slice str ref" =>
    ((with_reducible show wpAny _ _ (subscriptTail _ (PySem.Expr.Slice (some _) none none _) (Value.str (T _) _) _) _ _ _); (with_reducible rename Fr _ _ _ _ => F'); (with_reducible rename News _ _ _ _ => N'); (refine' drop_T (s := ⟨_, _, _, _, _⟩) ?y10k0 ?y10k1 ?y10kz F' N' ?_ ?y10ks ?y10kt; (case y10k0 => (first | lia | omega)); (case y10k1 => (first | lia | omega)); (case y10kz => (first | lia | omega)); (case y10ks => with_unfolding_all rfl); (case y10kt => intro _; with_unfolding_all rfl); k_whole); intro h' _ _ F' N')
  k_with "call ref" =>
    k_dflt (k_extra "my call")
  k_with "exec While" =>
    k_dflt (k_extra "my while")
  k_with "exec For" =>
    k_dflt (k_extra "my for")
  k_with "pyIter ref" =>
    k_dflt (k_extra "my iter")
  k_with "subscriptTail Name Constant ref int" =>
    k_dflt (k_extra "my item")
  k_with "binaryOp Add ref ref" =>
    (k_here; (show wpAny _ _ (binaryOp Operator.Add (Value.ref _) (Value.ref _)) _ _ _); k_dflt (refine' add_L ?y16k1 ?y16k2 ?y16k3 ?y16k4 ?_ ?y16z; (case y16k1 => k_asm); (case y16k2 => k_asm); (case y16k3 => k_mem); (case y16k4 => k_mem); (case y16z => first | (first | lia | omega) | (simp only [List.length_cons, List.length_nil, List.length_append]; (first | lia | omega))); k_whole); intro c9 h9 F9 N9 l9; (have lA := allLt_of l9); (try k_lt l9); (try dsimp only [List.append_nil, List.nil_append, List.cons_append] at N9); (try k_sweep))
  k_with "subscriptTail Constant" =>
    ((with_reducible show wpAny _ _ (subscriptTail _ (PySem.Expr.Slice (some _) (some _) none _) (Value.str (Str.ofString "abcdefghijklmnopqrst") _) _) _ _ _); (with_reducible rename Fr _ _ _ _ => F'); (with_reducible rename News _ _ _ _ => N'); (refine' cut_X (s := ⟨_, _, _, _, _⟩) alpha_T ?y17k0 ?y17k1 ?y17k2 ?y17kz F' N' ?_ ?y17ks ?y17kt; (case y17k0 => (first | lia | omega)); (case y17k1 => (first | lia | omega)); (case y17k2 => rw [List.length_range']; (first | lia | omega)); (case y17kz => rw [List.length_range']; decide); (case y17ks => with_unfolding_all rfl); (case y17kt => intro _; with_unfolding_all rfl); k_whole); intro h' _ _ F' N')
  k_with "subscriptTail Attribute" =>
    k_dflt (k_extra "my item2")
  k_with "call builtin:len" =>
    (k_here; (with_reducible show wpAny _ _ (call (Value.builtin "len") [Value.ref _]) _ _ _); k_dflt (refine' len_L ?y19k1 ?y19k2 ?y19z ?_; (case y19k1 => k_asm); (case y19k2 => first | k_mem | ((repeat' (first | assumption | refine List.mem_cons_of_mem _ ?_)); done)); (case y19z => first | (first | lia | omega) | ((try simp only [List.length_append, List.length_nil, List.length_cons]); (first | lia | omega))); k_whole))
  k_with "subscriptTail Attribute BinOp ref int" =>
    k_dflt (k_extra "my item2")
  k_with "eval ListComp" =>
    k_dflt (k_extra "my comp")
  k_with "CompSrc" =>
    k_dflt (k_extra "my src")
  k_with "CompSrcT" =>
    k_dflt (k_extra "my srcT")
  k_with "SrcLP" =>
    k_dflt (k_extra "my srcP")
  k_with "CompEnd" =>
    k_dflt (k_extra "my end")
  k_with "k_ne" =>
    first | with_reducible assumption | exact Ne.symm (by with_reducible assumption) | exact Nat.ne_of_lt (by with_reducible assumption) | exact Nat.ne_of_gt (by with_reducible assumption) | exact neL0 (by with_reducible assumption) | exact neR0 (by with_reducible assumption) | exact neL1 (by with_reducible assumption) | exact neR1 (by with_reducible assumption) | exact neL2 (by with_reducible assumption) | exact neR2 (by with_reducible assumption) | exact neL3 (by with_reducible assumption) | exact neR3 (by with_reducible assumption) | exact neL4 (by with_reducible assumption) | exact neR4 (by with_reducible assumption) | exact neL5 (by with_reducible assumption) | exact neR5 (by with_reducible assumption) | exact neL6 (by with_reducible assumption) | exact neR6 (by with_reducible assumption) | exact neL7 (by with_reducible assumption) | exact neR7 (by with_reducible assumption) | exact neL8 (by with_reducible assumption) | exact neR8 (by with_reducible assumption) | exact neL9 (by with_reducible assumption) | exact neR9 (by with_reducible assumption) | exact neL10 (by with_reducible assumption) | exact neR10 (by with_reducible assumption) | exact neL11 (by with_reducible assumption) | exact neR11 (by with_reducible assumption) | exact neL12 (by with_reducible assumption) | exact neR12 (by with_reducible assumption) | exact neL13 (by with_reducible assumption) | exact neR13 (by with_reducible assumption) | exact neTL0 (by with_reducible assumption) (by with_reducible assumption) | exact neTR0 (by with_reducible assumption) (by with_reducible assumption) | exact neTL1 (by with_reducible assumption) (by with_reducible assumption) | exact neTR1 (by with_reducible assumption) (by with_reducible assumption) | exact neTL2 (by with_reducible assumption) (by with_reducible assumption) | exact neTR2 (by with_reducible assumption) (by with_reducible assumption) | exact neTL3 (by with_reducible assumption) (by with_reducible assumption) | exact neTR3 (by with_reducible assumption) (by with_reducible assumption) | exact neTL4 (by with_reducible assumption) (by with_reducible assumption) | exact neTR4 (by with_reducible assumption) (by with_reducible assumption) | exact neTL5 (by with_reducible assumption) (by with_reducible assumption) | exact neTR5 (by with_reducible assumption) (by with_reducible assumption) | exact neTL6 (by with_reducible assumption) (by with_reducible assumption) | exact neTR6 (by with_reducible assumption) (by with_reducible assumption) | exact neTL7 (by with_reducible assumption) (by with_reducible assumption) | exact neTR7 (by with_reducible assumption) (by with_reducible assumption) | exact neTL8 (by with_reducible assumption) (by with_reducible assumption) | exact neTR8 (by with_reducible assumption) (by with_reducible assumption) | exact neTL9 (by with_reducible assumption) (by with_reducible assumption) | exact neTR9 (by with_reducible assumption) (by with_reducible assumption) | exact neQ0 (by with_reducible assumption) | exact Ne.symm (neQ0 (by with_reducible assumption)) | exact neQ1 (by with_reducible assumption) | exact Ne.symm (neQ1 (by with_reducible assumption)) | exact neQ2 (by with_reducible assumption) | exact Ne.symm (neQ2 (by with_reducible assumption)) | exact neQ3 (by with_reducible assumption) | exact Ne.symm (neQ3 (by with_reducible assumption)) | exact neQ4 (by with_reducible assumption) | exact Ne.symm (neQ4 (by with_reducible assumption)) | exact neQ5 (by with_reducible assumption) | exact Ne.symm (neQ5 (by with_reducible assumption)) | exact neQ6 (by with_reducible assumption) | exact Ne.symm (neQ6 (by with_reducible assumption)) | exact neQ7 (by with_reducible assumption) | exact Ne.symm (neQ7 (by with_reducible assumption)) | exact neQ8 (by with_reducible assumption) | exact Ne.symm (neQ8 (by with_reducible assumption)) | exact neQ9 (by with_reducible assumption) | exact Ne.symm (neQ9 (by with_reducible assumption))
  k_with "my call" =>
    (show wpAny _ _ (call (Value.ref 65) [_]) _ _ _)
    (with_reducible rename News _ _ _ _ => kN)
    (with_unfolding_all refine Ctr.useP (end_row_ok _ _ _ _ _ _ _ _ _ _ _ (by assumption) (by assumption) (by assumption) (by assumption) (by assumption) (by first | with_reducible assumption | exact Nat.le_trans (by with_reducible assumption) (by decide) | (first | lia | omega) | (simp only [List.length_append, List.length_cons, List.length_nil, List.length_replicate]; (first | lia | omega)))) (by k_asm) (by k_asm) (by k_asm) kN (by k_asm) (by first | exact rfl | assumption) (by (first | exact roomL (by with_reducible assumption) (by rfl) | exact roomL (by assumption) (by rfl) | ktr_room | ((dsimp only [ak]); ktr_room))) (by (first | exact roomU (by with_reducible assumption) (by rfl) | exact roomU (by assumption) (by rfl) | ktr_units | ((dsimp only [ak]); ktr_units))) ?_)
    clear kN
    intro tr9 vs9 k9 h9 tk9 hv9 F9 N9
    (try dsimp only [PL] at N9)
    (try dsimp only)
    (try k_sweep)
  refine wpAny_call ?_
  k_dflt cell_enter
  (try (refine nameL ?_; intro ak; refine nameE ?_; intro ev))
  repeat' (first | (k_unfold; (try dsimp only)) | walk1 | (dsimp only; walk1) | fail "no step")
  all_goals (rename Fr _ _ _ _ => kF)
  all_goals (rename News _ _ _ _ => kN)
  · have e : writeZone zone width (rows, row) = endRow (rows, row) := by unfold writeZone; rw [if_pos (by simp only [hc]; (first | lia | omega))]
    rw [e] at hret
    exact hret _ _ _ _ ⟨rfl, _, _, _, rfl, hv9⟩ kF kN
  all_goals
    have e : writeZone zone width (rows, row) = (rows, row ++ List.replicate (c - row.length) 32) := by unfold writeZone; rw [if_neg (by simp only [hc]; (first | lia | omega))]; simp only [hc]
    rw [e] at hret
    have e2 : (Int.fdiv (row.length : Int) (zone : Int) + 1) * (zone : Int) - (row.length : Int) = ((c - row.length : Nat) : Int) := by (first | lia | omega)
    rw [e2, Int.toNat_natCast] at kN
    exact hret _ _ _ _ ⟨rfl, _, _, _, rfl, hv⟩ kF kN
theorem write_tab_ok (pg dx o : Addr) (t1 t2 tr : Tok) (row : List Nat) (rows : List (List Nat)) (vs : List Value) (k : Nat) (own : Ledger) (h1 : @Ne Nat pg dx) (h2 : @Ne Nat pg o) (h3 : @Ne Nat dx o) (ho : OwnOff own [pg, dx, o]) (hv : RowsAre vs rows) (hsz : rows.length ≤ 10000) (hr : row.length ≤ 10000) (column width : Nat) (tc tw : Tok) (hc : column ≤ 200) (hw : width ≤ 1000) :
  Ctr prog w p loose mean mg mb 100 2 [.ref pg, .int (column + 1 : Int) tc, .int (width : Int) tw]
    (PL w.params pg dx o t1 t2 row tr vs k own)
    (fun v news' => v = .none ∧ ∃ (tr' : Tok) (vs' : List Value) (k' : Nat), news' = PL w.params pg dx o t1 t2 (writeTab column width (rows, row)).2 tr' vs' k' own ∧ RowsAre vs' (writeTab column width (rows, row)).1) := by
  have hwi := within_le column width
  have hci : ((column : Int) + 1 - 1).toNat = column := by (first | lia | omega)
  have hwj : (within ((column : Int) + 1 - 1).toNat width) = within column width := by rw [hci]
  refine Ctr.of ?_
  intro dp un gd cn cs a ccd cl outer A₀ base h₀ L m hp gn dr tk0 os0 Q E B F X N Tp hk hdp hun hret
  (try dsimp only [PL] at N hret)
  w_on
  k_with_none
  k_with "call builtin:list.append" =>
    (k_here; (show wpAny _ _ (call (Value.builtin "list.append") [Value.ref _, _]) _ _ _); k_dflt (refine' append_K ?y1k1 ?y1k2 ?y1k3 ?_ ?y1z; (case y1k1 => k_asm); (case y1k2 => k_asm); (case y1k3 => k_upd); (case y1z => first | size_fits | (simp only [List.size_toArray, sizeLine_eq]; (first | lia | omega))); k_whole); intro h' F' N'; (try k_sweep))
  k_with "call builtin:len" =>
    ((with_reducible show wpAny _ _ (call (Value.builtin "len") [Value.str _ _]) _ _ _); (refine' len_X ?y2kx ?y2kz ?_; (case y2kx => first | exact rfl | exact T_nil | exact T_blank); (case y2kz => first | (first | lia | omega) | ((try simp only [List.length_append, List.length_replicate, List.length_nil, List.length_cons, List.length_take, List.length_drop]); (first | lia | omega))); k_whole))
  k_with "binaryOp Add str str" =>
    ((with_reducible show wpAny _ _ (binaryOp Operator.Add (Value.str _ _) (Value.str _ _)) _ _ _); (refine' add_X ?y3kx ?y3ky ?y3kz ?_; (case y3kx => first | exact rfl | exact T_nil | exact T_blank); (case y3ky => first | exact rfl | exact T_nil | exact T_blank); (case y3kz => first | (first | lia | omega) | ((try simp only [List.length_append, List.length_replicate, List.length_nil, List.length_cons, List.length_take, List.length_drop]); (first | lia | omega))); k_whole); intro _ _)
  k_with "compareOp Eq str str" =>
    ((with_reducible show wpAny _ _ (compareOp CmpOp.Eq (Value.str (T _) _) (Value.str _ _)) _ _ _); (refine' eq_X ?y4kx ?y4ky ?_; (case y4kx => first | exact rfl | exact T_nil | exact T_blank); (case y4ky => first | exact rfl | exact T_nil | exact T_blank); k_whole))
  k_with "compareOp Eq str str" =>
    ((with_reducible show wpAny _ _ (compareOp CmpOp.Eq (Value.str _ _) (Value.str (T _) _)) _ _ _); (refine' eq_X ?y5kx ?y5ky ?_; (case y5kx => first | exact rfl | exact T_nil | exact T_blank); (case y5ky => first | exact rfl | exact T_nil | exact T_blank); k_whole))
  k_with "compareOp NotEq str str" =>
    ((with_reducible show wpAny _ _ (compareOp CmpOp.NotEq (Value.str (T _) _) (Value.str _ _)) _ _ _); (refine' ne_X ?y6kx ?y6ky ?_; (case y6kx => first | exact rfl | exact T_nil | exact T_blank); (case y6ky => first | exact rfl | exact T_nil | exact T_blank); k_whole))
  k_with "compareOp NotEq str str" =>
    ((with_reducible show wpAny _ _ (compareOp CmpOp.NotEq (Value.str _ _) (Value.str (T _) _)) _ _ _); (refine' ne_X ?y7kx ?y7ky ?_; (case y7kx => first | exact rfl | exact T_nil | exact T_blank); (case y7ky => first | exact rfl | exact T_nil | exact T_blank); k_whole))
  k_with "binaryOp Mult str int" =>
    ((with_reducible show wpAny _ _ (binaryOp Operator.Mult (Value.str _ _) (Value.int _ _)) _ _ _); (refine' mul_X ?y8kx ?y8k0 ?y8kn ?_; (case y8kx => first | exact rfl | exact T_blank); (case y8k0 => first | (first | lia | omega) | (simp only [List.length_nil]; (first | lia | omega))); (case y8kn => first | (first | lia | omega) | (simp only [List.length_nil]; (first | lia | omega))); k_whole); intro _ _)
  k_with "subscriptTail Name Slice str ref" =>
    ((with_reducible show wpAny _ _ (subscriptTail _ (PySem.Expr.Slice none (some _) none _) (Value.str (T _) _) _) _ _ _); (with_reducible rename Fr _ _ _ _ => F'); (with_reducible rename News _ _ _ _ => N'); (refine' take_T (s := ⟨_, _, _, _, _⟩) ?y9k0 ?y9k1 ?y9kz F' N' ?_ ?y9ks ?y9kt; (case y9k0 => (first | lia | omega)); (case y9k1 => (first | lia | omega)); (case y9kz => (first | lia | omega)); (case y9ks => with_unfolding_all rfl); (case y9kt => intro _; with_unfolding_all rfl); k_whole); intro h' _ _ F' N')
  k_with "subscriptTail Name Slice str ref" =>
    ((with_reducible show wpAny _ _ (subscriptTail _ (PySem.Expr.Slice (some _) none none _) (Value.str (T _) _) _) _ _ _); (with_reducible rename Fr _ _ _ _ => F'); (with_reducible rename News _ _ _ _ => N'); (refine' drop_T (s := ⟨_, _, _, _, _⟩) ?y10k0 ?y10k1 ?y10kz F' N' ?_ ?y10ks ?y10kt; (case y10k0 => (first | lia | omega)); (case y10k1 => (first | lia | omega)); (case y10kz => (first | lia | omega)); (case y10ks => with_unfolding_all rfl); (case y10kt => intro _; with_unfolding_all rfl); k_whole); intro h' _ _ F' N')
  k_with "call ref" =>
    k_dflt (k_extra "my call")
  k_with "exec While" =>
    k_dflt (k_extra "my while")
  k_with "exec For" =>
    k_dflt (k_extra "my for")
  k_with "pyIter ref" =>
    k_dflt (k_extra "my iter")
  k_with "subscriptTail Name Constant ref int" =>
    k_dflt (k_extra "my item")
  k_with "binaryOp Add ref ref" =>
    (k_here; (show wpAny _ _ (binaryOp Operator.Add (Value.ref _) (Value.ref _)) _ _ _); k_dflt (refine' add_L ?y16k1 ?y16k2 ?y16k3 ?y16k4 ?_ ?y16z; (case y16k1 => k_asm); (case y16k2 => k_asm); (case y16k3 => k_mem); (case y16k4 => k_mem); (case y16z => first | (first | lia | omega) | (simp only [List.length_cons, List.length_nil, List.length_append]; (first | lia | omega))); k_whole); intro c9 h9 F9 N9 l9; (have lA := allLt_of l9); (try k_lt l9); (try dsimp only [List.append_nil, List.nil_append, List.cons_append] at N9); (try k_sweep))
  k_with "subscriptTail Constant" =>
    ((with_reducible show wpAny _ _ (subscriptTail _ (PySem.Expr.Slice (some _) (some _) none _) (Value.str (Str.ofString "abcdefghijklmnopqrst") _) _) _ _ _); (with_reducible rename Fr _ _ _ _ => F'); (with_reducible rename News _ _ _ _ => N'); (refine' cut_X (s := ⟨_, _, _, _, _⟩) alpha_T ?y17k0 ?y17k1 ?y17k2 ?y17kz F' N' ?_ ?y17ks ?y17kt; (case y17k0 => (first | lia | omega)); (case y17k1 => (first | lia | omega)); (case y17k2 => rw [List.length_range']; (first | lia | omega)); (case y17kz => rw [List.length_range']; decide); (case y17ks => with_unfolding_all rfl); (case y17kt => intro _; with_unfolding_all rfl); k_whole); intro h' _ _ F' N')
  k_with "subscriptTail Attribute" =>
    k_dflt (k_extra "my item2")
  k_with "call builtin:len" =>
    (k_here; (with_reducible show wpAny _ _ (call (Value.builtin "len") [Value.ref _]) _ _ _); k_dflt (refine' len_L ?y19k1 ?y19k2 ?y19z ?_; (case y19k1 => k_asm); (case y19k2 => first | k_mem | ((repeat' (first | assumption | refine List.mem_cons_of_mem _ ?_)); done)); (case y19z => first | (first | lia | omega) | ((try simp only [List.length_append, List.length_nil, List.length_cons]); (first | lia | omega))); k_whole))
  k_with "subscriptTail Attribute BinOp ref int" =>
    k_dflt (k_extra "my item2")
  k_with "eval ListComp" =>
    k_dflt (k_extra "my comp")
  k_with "CompSrc" =>
    k_dflt (k_extra "my src")
  k_with "CompSrcT" =>
    k_dflt (k_extra "my srcT")
  k_with "SrcLP" =>
    k_dflt (k_extra "my srcP")
  k_with "CompEnd" =>
    k_dflt (k_extra "my end")
  k_with "k_ne" =>
    first | with_reducible assumption | exact Ne.symm (by with_reducible assumption) | exact Nat.ne_of_lt (by with_reducible assumption) | exact Nat.ne_of_gt (by with_reducible assumption) | exact neL0 (by with_reducible assumption) | exact neR0 (by with_reducible assumption) | exact neL1 (by with_reducible assumption) | exact neR1 (by with_reducible assumption) | exact neL2 (by with_reducible assumption) | exact neR2 (by with_reducible assumption) | exact neL3 (by with_reducible assumption) | exact neR3 (by with_reducible assumption) | exact neL4 (by with_reducible assumption) | exact neR4 (by with_reducible assumption) | exact neL5 (by with_reducible assumption) | exact neR5 (by with_reducible assumption) | exact neL6 (by with_reducible assumption) | exact neR6 (by with_reducible assumption) | exact neL7 (by with_reducible assumption) | exact neR7 (by with_reducible assumption) | exact neL8 (by with_reducible assumption) | exact neR8 (by with_reducible assumption) | exact neL9 (by with_reducible assumption) | exact neR9 (by with_reducible assumption) | exact neL10 (by with_reducible assumption) | exact neR10 (by with_reducible assumption) | exact neL11 (by with_reducible assumption) | exact neR11 (by with_reducible assumption) | exact neL12 (by with_reducible assumption) | exact neR12 (by with_reducible assumption) | exact neL13 (by with_reducible assumption) | exact neR13 (by with_reducible assumption) | exact neTL0 (by with_reducible assumption) (by with_reducible assumption) | exact neTR0 (by with_reducible assumption) (by with_reducible assumption) | exact neTL1 (by with_reducible assumption) (by with_reducible assumption) | exact neTR1 (by with_reducible assumption) (by with_reducible assumption) | exact neTL2 (by with_reducible assumption) (by with_reducible assumption) | exact neTR2 (by with_reducible assumption) (by with_reducible assumption) | exact neTL3 (by with_reducible assumption) (by with_reducible assumption) | exact neTR3 (by with_reducible assumption) (by with_reducible assumption) | exact neTL4 (by with_reducible assumption) (by with_reducible assumption) | exact neTR4 (by with_reducible assumption) (by with_reducible assumption) | exact neTL5 (by with_reducible assumption) (by with_reducible assumption) | exact neTR5 (by with_reducible assumption) (by with_reducible assumption) | exact neTL6 (by with_reducible assumption) (by with_reducible assumption) | exact neTR6 (by with_reducible assumption) (by with_reducible assumption) | exact neTL7 (by with_reducible assumption) (by with_reducible assumption) | exact neTR7 (by with_reducible assumption) (by with_reducible assumption) | exact neTL8 (by with_reducible assumption) (by with_reducible assumption) | exact neTR8 (by with_reducible assumption) (by with_reducible assumption) | exact neTL9 (by with_reducible assumption) (by with_reducible assumption) | exact neTR9 (by with_reducible assumption) (by with_reducible assumption) | exact neQ0 (by with_reducible assumption) | exact Ne.symm (neQ0 (by with_reducible assumption)) | exact neQ1 (by with_reducible assumption) | exact Ne.symm (neQ1 (by with_reducible assumption)) | exact neQ2 (by with_reducible assumption) | exact Ne.symm (neQ2 (by with_reducible assumption)) | exact neQ3 (by with_reducible assumption) | exact Ne.symm (neQ3 (by with_reducible assumption)) | exact neQ4 (by with_reducible assumption) | exact Ne.symm (neQ4 (by with_reducible assumption)) | exact neQ5 (by with_reducible assumption) | exact Ne.symm (neQ5 (by with_reducible assumption)) | exact neQ6 (by with_reducible assumption) | exact Ne.symm (neQ6 (by with_reducible assumption)) | exact neQ7 (by with_reducible assumption) | exact Ne.symm (neQ7 (by with_reducible assumption)) | exact neQ8 (by with_reducible assumption) | exact Ne.symm (neQ8 (by with_reducible assumption)) | exact neQ9 (by with_reducible assumption) | exact Ne.symm (neQ9 (by with_reducible assumption))
  k_with "my call" =>
    (show wpAny _ _ (call (Value.ref 65) [_]) _ _ _)
    (with_reducible rename News _ _ _ _ => kN)
    (with_unfolding_all refine Ctr.useP (end_row_ok _ _ _ _ _ _ _ _ _ _ _ (by assumption) (by assumption) (by assumption) (by assumption) (by assumption) (by first | with_reducible assumption | exact Nat.le_trans (by with_reducible assumption) (by decide) | (first | lia | omega) | (simp only [List.length_append, List.length_cons, List.length_nil, List.length_replicate]; (first | lia | omega)))) (by k_asm) (by k_asm) (by k_asm) kN (by k_asm) (by first | exact rfl | assumption) (by (first | exact roomL (by with_reducible assumption) (by rfl) | exact roomL (by assumption) (by rfl) | ktr_room | ((dsimp only [ak]); ktr_room))) (by (first | exact roomU (by with_reducible assumption) (by rfl) | exact roomU (by assumption) (by rfl) | ktr_units | ((dsimp only [ak]); ktr_units))) ?_)
    clear kN
    intro tr9 vs9 k9 h9 tk9 hv9 F9 N9
    (try dsimp only [PL] at N9)
    (try dsimp only)
    (try k_sweep)
  k_with "my call" =>
    (show wpAny _ _ (call (Value.ref 86) [_, _]) _ _ _)
    (with_reducible rename News _ _ _ _ => kN)
    (with_unfolding_all refine Ctr.useI (within_row_ok _ _ _ _ _ (by first | with_reducible assumption | exact Nat.le_trans (by with_reducible assumption) (by decide) | (first | lia | omega) | (simp only [List.length_append, List.length_cons, List.length_nil, List.length_replicate]; (first | lia | omega))) (by first | with_reducible assumption | exact Nat.le_trans (by with_reducible assumption) (by decide) | (first | lia | omega) | (simp only [List.length_append, List.length_cons, List.length_nil, List.length_replicate]; (first | lia | omega))) (by first | with_reducible assumption | exact Nat.le_trans (by with_reducible assumption) (by decide) | (first | lia | omega) | (simp only [List.length_append, List.length_cons, List.length_nil, List.length_replicate]; (first | lia | omega)))) (by k_asm) (by k_asm) (by k_asm) kN (by k_asm) (by first | exact rfl | assumption) (by (first | exact roomL (by with_reducible assumption) (by rfl) | exact roomL (by assumption) (by rfl) | ktr_room | ((dsimp only [ak]); ktr_room))) (by (first | exact roomU (by with_reducible assumption) (by rfl) | exact roomU (by assumption) (by rfl) | ktr_units | ((dsimp only [ak]); ktr_units))) ?_)
    clear kN
    intro t9 h9 tk9 F9 N9
    (try dsimp only [PL] at N9)
    (try dsimp only)
    (try k_sweep)
  refine wpAny_call ?_
  k_dflt cell_enter
  (try (refine nameL ?_; intro ak; refine nameE ?_; intro ev))
  repeat' (first | (k_unfold; (try dsimp only)) | walk1 | (dsimp only; walk1) | fail "no step")
  all_goals (rename Fr _ _ _ _ => kF)
  all_goals (rename News _ _ _ _ => kN)
  all_goals (try rw [hci] at kN)
  · have e : writeTab column width (rows, row) = (rows ++ [row], List.replicate (within column width) 32) := by unfold writeTab; rw [if_pos (by simp only; (first | lia | omega))]; rfl
    rw [e] at hret
    have e2 : ((within column width : Nat) : Int) - (([] : List Nat).length : Int) = ((within column width : Nat) : Int) := by simp
    rw [e2, Int.toNat_natCast, List.nil_append] at kN
    exact hret _ _ _ _ ⟨rfl, _, _, _, rfl, hv9⟩ kF kN
  · have e : writeTab column width (rows, row) = (rows, row ++ List.replicate (within column width - row.length) 32) := by unfold writeTab; rw [if_neg (by simp only; (first | lia | omega))]
    rw [e] at hret
    have e2 : ((within column width : Nat) : Int) - (row.length : Int) = ((within column width - row.length : Nat) : Int) := by (first | lia | omega)
    rw [e2, Int.toNat_natCast] at kN
    exact hret _ _ _ _ ⟨rfl, _, _, _, rfl, hv⟩ kF kN
end
end
/-! part E4 -/
section
abbrev tupO (vs : List Value) : Obj := { cls := .type "tuple", data := .seq vs.toArray }
inductive PartIs : Obj → Part → Prop
  | text (t : List Nat) (tk tt : Tok) (h : t.length ≤ 300) : PartIs (tupO [.str (Str.ofString "text") tk, .str (T t) tt]) (.text t)
  | zone (tk : Tok) : PartIs (tupO [.str (Str.ofString "zone") tk]) .zone
  | tab (c : Nat) (tk tc : Tok) (h : c ≤ 200) : PartIs (tupO [.str (Str.ofString "tab") tk, .int (c + 1 : Int) tc]) (.tab c)
  | spc (n : Nat) (tk tc : Tok) (h : n ≤ 200) : PartIs (tupO [.str (Str.ofString "spc") tk, .int (n : Int) tc]) (.spc n)
  | glue (tk : Tok) : PartIs (tupO [.str (Str.ofString "glue") tk]) .glue
section
variable {prog : Program} {w : World} {p : Program} {loose : List Str} {mean : ExcName → Option Value} {mg mb : Str → Option Value}
theorem write_part_ok (pg dx o : Addr) (t1 t2 tr : Tok) (row : List Nat) (rows : List (List Nat)) (vs : List Value) (k : Nat) (own : Ledger) (h1 : @Ne Nat pg dx) (h2 : @Ne Nat pg o) (h3 : @Ne Nat dx o) (ho : OwnOff own [pg, dx, o]) (hv : RowsAre vs rows) (hsz : rows.length ≤ 10000) (hr : row.length ≤ 10000) (q : Addr) (qo : Obj) (part : Part) (zone width : Nat) (tz tw : Tok) (hq : (q, qo) ∈ own) (hP : PartIs qo part) (hz : 1 ≤ zone) (hz2 : zone ≤ 20) (hw : width ≤ 1000) :
  Ctr prog w p loose mean mg mb 107 4 [.ref pg, .ref q, .int (zone : Int) tz, .int (width : Int) tw]
    (PL w.params pg dx o t1 t2 row tr vs k own)
    (fun v news' => v = .bool part.isText ∧ ∃ (tr' : Tok) (vs' : List Value) (k' : Nat), news' = PL w.params pg dx o t1 t2 (writePart zone width (rows, row) part).2 tr' vs' k' own ∧ RowsAre vs' (writePart zone width (rows, row) part).1) := by
  refine Ctr.of ?_
  intro dp un gd cn cs a ccd cl outer A₀ base h₀ L m hp gn dr tk0 os0 Q E B F X N Tp hk hdp hun hret
  (try dsimp only [PL] at N hret)
  w_on
  k_with_none
  k_with "call builtin:list.append" =>
    (k_here; (show wpAny _ _ (call (Value.builtin "list.append") [Value.ref _, _]) _ _ _); k_dflt (refine' append_K ?y1k1 ?y1k2 ?y1k3 ?_ ?y1z; (case y1k1 => k_asm); (case y1k2 => k_asm); (case y1k3 => k_upd); (case y1z => first | size_fits | (simp only [List.size_toArray, sizeLine_eq]; (first | lia | omega))); k_whole); intro h' F' N'; (try k_sweep))
  k_with "call builtin:len" =>
    ((with_reducible show wpAny _ _ (call (Value.builtin "len") [Value.str _ _]) _ _ _); (refine' len_X ?y2kx ?y2kz ?_; (case y2kx => first | exact rfl | exact T_nil | exact T_blank); (case y2kz => first | (first | lia | omega) | ((try simp only [List.length_append, List.length_replicate, List.length_nil, List.length_cons, List.length_take, List.length_drop]); (first | lia | omega))); k_whole))
  k_with "binaryOp Add str str" =>
    ((with_reducible show wpAny _ _ (binaryOp Operator.Add (Value.str _ _) (Value.str _ _)) _ _ _); (refine' add_X ?y3kx ?y3ky ?y3kz ?_; (case y3kx => first | exact rfl | exact T_nil | exact T_blank); (case y3ky => first | exact rfl | exact T_nil | exact T_blank); (case y3kz => first | (first | lia | omega) | ((try simp only [List.length_append, List.length_replicate, List.length_nil, List.length_cons, List.length_take, List.length_drop]); (first | lia | omega))); k_whole); intro _ _)
  k_with "compareOp Eq str str" =>
    ((with_reducible show wpAny _ _ (compareOp CmpOp.Eq (Value.str (T _) _) (Value.str _ _)) _ _ _); (refine' eq_X ?y4kx ?y4ky ?_; (case y4kx => first | exact rfl | exact T_nil | exact T_blank); (case y4ky => first | exact rfl | exact T_nil | exact T_blank); k_whole))
  k_with "compareOp Eq str str" =>
    ((with_reducible show wpAny _ _ (compareOp CmpOp.Eq (Value.str _ _) (Value.str (T _) _)) _ _ _); (refine' eq_X ?y5kx ?y5ky ?_; (case y5kx => first | exact rfl | exact T_nil | exact T_blank); (case y5ky => first | exact rfl | exact T_nil | exact T_blank); k_whole))
  k_with "compareOp NotEq str str" =>
    ((with_reducible show wpAny _ _ (compareOp CmpOp.NotEq (Value.str (T _) _) (Value.str _ _)) _ _ _); (refine' ne_X ?y6kx ?y6ky ?_; (case y6kx => first | exact rfl | exact T_nil | exact T_blank); (case y6ky => first | exact rfl | exact T_nil | exact T_blank); k_whole))
  k_with "compareOp NotEq str str" =>
    ((with_reducible show wpAny _ _ (compareOp CmpOp.NotEq (Value.str _ _) (Value.str (T _) _)) _ _ _); (refine' ne_X ?y7kx ?y7ky ?_; (case y7kx => first | exact rfl | exact T_nil | exact T_blank); (case y7ky => first | exact rfl | exact T_nil | exact T_blank); k_whole))
  k_with "binaryOp Mult str int" =>
    ((with_reducible show wpAny _ _ (binaryOp Operator.Mult (Value.str _ _) (Value.int _ _)) _ _ _); (refine' mul_X ?y8kx ?y8k0 ?y8kn ?_; (case y8kx => first | exact rfl | exact T_blank); (case y8k0 => first | (first | lia | omega) | (simp only [List.length_nil]; (first | lia | omega))); (case y8kn => first | (first | lia | omega) | (simp only [List.length_nil]; (first | lia | omega))); k_whole); intro _ _)
  k_with "subscriptTail Name Slice str ref" =>
    ((with_reducible show wpAny _ _ (subscriptTail _ (PySem.Expr.Slice none (some _) none _) (Value.str (T _) _) _) _ _ _); (with_reducible rename Fr _ _ _ _ => F'); (with_reducible rename News _ _ _ _ => N'); (refine' take_T (s := ⟨_, _, _, _, _⟩) ?y9k0 ?y9k1 ?y9kz F' N' ?_ ?y9ks ?y9kt; (case y9k0 => (first | lia | omega)); (case y9k1 => (first | lia | omega)); (case y9kz => (first | lia | omega)); (case y9ks => with_unfolding_all rfl); (case y9kt => intro _; with_unfolding_all rfl); k_whole); intro h' _ _ F' N')
  k_with "subscriptTail Name Slice str ref" =>
    ((with_reducible show wpAny _ _ (subscriptTail _ (PySem.Expr.Slice (some _) none none _) (Value.str (T _) _) _) _ _ _); (with_reducible rename Fr _ _ _ _ => F'); (with_reducible rename News _ _ _ _ => N'); (refine' drop_T (s := ⟨_, _, _, _, _⟩) ?y10k0 ?y10k1 ?y10kz F' N' ?_ ?y10ks ?y10kt; (case y10k0 => (first | lia | omega)); (case y10k1 => (first | lia | omega)); (case y10kz => (first | lia | omega)); (case y10ks => with_unfolding_all rfl); (case y10kt => intro _; with_unfolding_all rfl); k_whole); intro h' _ _ F' N')
  k_with "call ref" =>
    k_dflt (k_extra "my call")
  k_with "exec While" =>
    k_dflt (k_extra "my while")
  k_with "exec For" =>
    k_dflt (k_extra "my for")
  k_with "pyIter ref" =>
    k_dflt (k_extra "my iter")
  k_with "subscriptTail Name Constant ref int" =>
    k_dflt (k_extra "my item")
  k_with "binaryOp Add ref ref" =>
    (k_here; (show wpAny _ _ (binaryOp Operator.Add (Value.ref _) (Value.ref _)) _ _ _); k_dflt (refine' add_L ?y16k1 ?y16k2 ?y16k3 ?y16k4 ?_ ?y16z; (case y16k1 => k_asm); (case y16k2 => k_asm); (case y16k3 => k_mem); (case y16k4 => k_mem); (case y16z => first | (first | lia | omega) | (simp only [List.length_cons, List.length_nil, List.length_append]; (first | lia | omega))); k_whole); intro c9 h9 F9 N9 l9; (have lA := allLt_of l9); (try k_lt l9); (try dsimp only [List.append_nil, List.nil_append, List.cons_append] at N9); (try k_sweep))
  k_with "subscriptTail Constant" =>
    ((with_reducible show wpAny _ _ (subscriptTail _ (PySem.Expr.Slice (some _) (some _) none _) (Value.str (Str.ofString "abcdefghijklmnopqrst") _) _) _ _ _); (with_reducible rename Fr _ _ _ _ => F'); (with_reducible rename News _ _ _ _ => N'); (refine' cut_X (s := ⟨_, _, _, _, _⟩) alpha_T ?y17k0 ?y17k1 ?y17k2 ?y17kz F' N' ?_ ?y17ks ?y17kt; (case y17k0 => (first | lia | omega)); (case y17k1 => (first | lia | omega)); (case y17k2 => rw [List.length_range']; (first | lia | omega)); (case y17kz => rw [List.length_range']; decide); (case y17ks => with_unfolding_all rfl); (case y17kt => intro _; with_unfolding_all rfl); k_whole); intro h' _ _ F' N')
  k_with "subscriptTail Attribute" =>
    k_dflt (k_extra "my item2")
  k_with "call builtin:len" =>
    (k_here; (with_reducible show wpAny _ _ (call (Value.builtin "len") [Value.ref _]) _ _ _); k_dflt (refine' len_L ?y19k1 ?y19k2 ?y19z ?_; (case y19k1 => k_asm); (case y19k2 => first | k_mem | ((repeat' (first | assumption | refine List.mem_cons_of_mem _ ?_)); done)); (case y19z => first | (first | lia | omega) | ((try simp only [List.length_append, List.length_nil, List.length_cons]); (first | lia | omega))); k_whole))
  k_with "subscriptTail Attribute BinOp ref int" =>
    k_dflt (k_extra "my item2")
  k_with "eval ListComp" =>
    k_dflt (k_extra "my comp")
  k_with "CompSrc" =>
    k_dflt (k_extra "my src")
  k_with "CompSrcT" =>
    k_dflt (k_extra "my srcT")
  k_with "SrcLP" =>
    k_dflt (k_extra "my srcP")
  k_with "CompEnd" =>
    k_dflt (k_extra "my end")
  k_with "k_ne" =>
    first | with_reducible assumption | exact Ne.symm (by with_reducible assumption) | exact Nat.ne_of_lt (by with_reducible assumption) | exact Nat.ne_of_gt (by with_reducible assumption) | exact neL0 (by with_reducible assumption) | exact neR0 (by with_reducible assumption) | exact neL1 (by with_reducible assumption) | exact neR1 (by with_reducible assumption) | exact neL2 (by with_reducible assumption) | exact neR2 (by with_reducible assumption) | exact neL3 (by with_reducible assumption) | exact neR3 (by with_reducible assumption) | exact neL4 (by with_reducible assumption) | exact neR4 (by with_reducible assumption) | exact neL5 (by with_reducible assumption) | exact neR5 (by with_reducible assumption) | exact neL6 (by with_reducible assumption) | exact neR6 (by with_reducible assumption) | exact neL7 (by with_reducible assumption) | exact neR7 (by with_reducible assumption) | exact neL8 (by with_reducible assumption) | exact neR8 (by with_reducible assumption) | exact neL9 (by with_reducible assumption) | exact neR9 (by with_reducible assumption) | exact neL10 (by with_reducible assumption) | exact neR10 (by with_reducible assumption) | exact neL11 (by with_reducible assumption) | exact neR11 (by with_reducible assumption) | exact neL12 (by with_reducible assumption) | exact neR12 (by with_reducible assumption) | exact neL13 (by with_reducible assumption) | exact neR13 (by with_reducible assumption) | exact neTL0 (by with_reducible assumption) (by with_reducible assumption) | exact neTR0 (by with_reducible assumption) (by with_reducible assumption) | exact neTL1 (by with_reducible assumption) (by with_reducible assumption) | exact neTR1 (by with_reducible assumption) (by with_reducible assumption) | exact neTL2 (by with_reducible assumption) (by with_reducible assumption) | exact neTR2 (by with_reducible assumption) (by with_reducible assumption) | exact neTL3 (by with_reducible assumption) (by with_reducible assumption) | exact neTR3 (by with_reducible assumption) (by with_reducible assumption) | exact neTL4 (by with_reducible assumption) (by with_reducible assumption) | exact neTR4 (by with_reducible assumption) (by with_reducible assumption) | exact neTL5 (by with_reducible assumption) (by with_reducible assumption) | exact neTR5 (by with_reducible assumption) (by with_reducible assumption) | exact neTL6 (by with_reducible assumption) (by with_reducible assumption) | exact neTR6 (by with_reducible assumption) (by with_reducible assumption) | exact neTL7 (by with_reducible assumption) (by with_reducible assumption) | exact neTR7 (by with_reducible assumption) (by with_reducible assumption) | exact neTL8 (by with_reducible assumption) (by with_reducible assumption) | exact neTR8 (by with_reducible assumption) (by with_reducible assumption) | exact neTL9 (by with_reducible assumption) (by with_reducible assumption) | exact neTR9 (by with_reducible assumption) (by with_reducible assumption) | exact neQ0 (by with_reducible assumption) | exact Ne.symm (neQ0 (by with_reducible assumption)) | exact neQ1 (by with_reducible assumption) | exact Ne.symm (neQ1 (by with_reducible assumption)) | exact neQ2 (by with_reducible assumption) | exact Ne.symm (neQ2 (by with_reducible assumption)) | exact neQ3 (by with_reducible assumption) | exact Ne.symm (neQ3 (by with_reducible assumption)) | exact neQ4 (by with_reducible assumption) | exact Ne.symm (neQ4 (by with_reducible assumption)) | exact neQ5 (by with_reducible assumption) | exact Ne.symm (neQ5 (by with_reducible assumption)) | exact neQ6 (by with_reducible assumption) | exact Ne.symm (neQ6 (by with_reducible assumption)) | exact neQ7 (by with_reducible assumption) | exact Ne.symm (neQ7 (by with_reducible assumption)) | exact neQ8 (by with_reducible assumption) | exact Ne.symm (neQ8 (by with_reducible assumption)) | exact neQ9 (by with_reducible assumption) | exact Ne.symm (neQ9 (by with_reducible assumption))
  k_with "my call" =>
    (show wpAny _ _ (call (Value.ref 72) [_, _, _]) _ _ _)
    (with_reducible rename News _ _ _ _ => kN)
    (with_unfolding_all refine Ctr.useP (write_text_ok _ _ _ _ _ _ _ _ _ _ _ _ _ _ _ (by assumption) (by assumption) (by assumption) (by assumption) (by assumption) (by first | with_reducible assumption | exact Nat.le_trans (by with_reducible assumption) (by decide) | (first | lia | omega) | (simp only [List.length_append, List.length_cons, List.length_nil, List.length_replicate]; (first | lia | omega))) (by first | with_reducible assumption | exact Nat.le_trans (by with_reducible assumption) (by decide) | (first | lia | omega) | (simp only [List.length_append, List.length_cons, List.length_nil, List.length_replicate]; (first | lia | omega))) (by first | with_reducible assumption | exact Nat.le_trans (by with_reducible assumption) (by decide) | (first | lia | omega) | (simp only [List.length_append, List.length_cons, List.length_nil, List.length_replicate]; (first | lia | omega))) (by first | (first | lia | omega) | (simp only [List.length_replicate]; (first | lia | omega)))) (by k_asm) (by k_asm) (by k_asm) kN (by k_asm) (by first | exact rfl | assumption) (by (first | exact roomL (by with_reducible assumption) (by rfl) | exact roomL (by assumption) (by rfl) | ktr_room | ((dsimp only [ak]); ktr_room))) (by (first | exact roomU (by with_reducible assumption) (by rfl) | exact roomU (by assumption) (by rfl) | ktr_units | ((dsimp only [ak]); ktr_units))) ?_)
    clear kN
    intro tr9 vs9 k9 h9 tk9 hv9 F9 N9
    (try dsimp only [PL] at N9)
    (try dsimp only)
    (try k_sweep)
  k_with "my call" =>
    (show wpAny _ _ (call (Value.ref 79) [_, _, _]) _ _ _)
    (with_reducible rename News _ _ _ _ => kN)
    (with_unfolding_all refine Ctr.useP (write_zone_ok _ _ _ _ _ _ _ _ _ _ _ (by assumption) (by assumption) (by assumption) (by assumption) (by assumption) (by first | with_reducible assumption | exact Nat.le_trans (by with_reducible assumption) (by decide) | (first | lia | omega) | (simp only [List.length_append, List.length_cons, List.length_nil, List.length_replicate]; (first | lia | omega))) (by first | with_reducible assumption | exact Nat.le_trans (by with_reducible assumption) (by decide) | (first | lia | omega) | (simp only [List.length_append, List.length_cons, List.length_nil, List.length_replicate]; (first | lia | omega))) _ _ _ _ (by first | with_reducible assumption | exact Nat.le_trans (by with_reducible assumption) (by decide) | (first | lia | omega) | (simp only [List.length_append, List.length_cons, List.length_nil, List.length_replicate]; (first | lia | omega))) (by first | with_reducible assumption | exact Nat.le_trans (by with_reducible assumption) (by decide) | (first | lia | omega) | (simp only [List.length_append, List.length_cons, List.length_nil, List.length_replicate]; (first | lia | omega))) (by first | with_reducible assumption | exact Nat.le_trans (by with_reducible assumption) (by decide) | (first | lia | omega) | (simp only [List.length_append, List.length_cons, List.length_nil, List.length_replicate]; (first | lia | omega)))) (by k_asm) (by k_asm) (by k_asm) kN (by k_asm) (by first | exact rfl | assumption) (by (first | exact roomL (by with_reducible assumption) (by rfl) | exact roomL (by assumption) (by rfl) | ktr_room | ((dsimp only [ak]); ktr_room))) (by (first | exact roomU (by with_reducible assumption) (by rfl) | exact roomU (by assumption) (by rfl) | ktr_units | ((dsimp only [ak]); ktr_units))) ?_)
    clear kN
    intro tr9 vs9 k9 h9 tk9 hv9 F9 N9
    (try dsimp only [PL] at N9)
    (try dsimp only)
    (try k_sweep)
  k_with "my call" =>
    (show wpAny _ _ (call (Value.ref 93) [_, _, _]) _ _ _)
    (with_reducible rename News _ _ _ _ => kN)
    (with_unfolding_all refine Ctr.useP (write_blanks_ok _ _ _ _ _ _ _ _ _ _ _ (by assumption) (by assumption) (by assumption) (by assumption) (by assumption) (by first | with_reducible assumption | exact Nat.le_trans (by with_reducible assumption) (by decide) | (first | lia | omega) | (simp only [List.length_append, List.length_cons, List.length_nil, List.length_replicate]; (first | lia | omega))) (by first | with_reducible assumption | exact Nat.le_trans (by with_reducible assumption) (by decide) | (first | lia | omega) | (simp only [List.length_append, List.length_cons, List.length_nil, List.length_replicate]; (first | lia | omega))) _ _ _ _ (by first | with_reducible assumption | exact Nat.le_trans (by with_reducible assumption) (by decide) | (first | lia | omega) | (simp only [List.length_append, List.length_cons, List.length_nil, List.length_replicate]; (first | lia | omega))) (by first | with_reducible assumption | exact Nat.le_trans (by with_reducible assumption) (by decide) | (first | lia | omega) | (simp only [List.length_append, List.length_cons, List.length_nil, List.length_replicate]; (first | lia | omega)))) (by k_asm) (by k_asm) (by k_asm) kN (by k_asm) (by first | exact rfl | assumption) (by (first | exact roomL (by with_reducible assumption) (by rfl) | exact roomL (by assumption) (by rfl) | ktr_room | ((dsimp only [ak]); ktr_room))) (by (first | exact roomU (by with_reducible assumption) (by rfl) | exact roomU (by assumption) (by rfl) | ktr_units | ((dsimp only [ak]); ktr_units))) ?_)
    clear kN
    intro tr9 vs9 k9 h9 tk9 hv9 F9 N9
    (try dsimp only [PL] at N9)
    (try dsimp only)
    (try k_sweep)
  k_with "my call" =>
    (show wpAny _ _ (call (Value.ref 100) [_, _, _]) _ _ _)
    (with_reducible rename News _ _ _ _ => kN)
    (with_unfolding_all refine Ctr.useP (write_tab_ok _ _ _ _ _ _ _ _ _ _ _ (by assumption) (by assumption) (by assumption) (by assumption) (by assumption) (by first | with_reducible assumption | exact Nat.le_trans (by with_reducible assumption) (by decide) | (first | lia | omega) | (simp only [List.length_append, List.length_cons, List.length_nil, List.length_replicate]; (first | lia | omega))) (by first | with_reducible assumption | exact Nat.le_trans (by with_reducible assumption) (by decide) | (first | lia | omega) | (simp only [List.length_append, List.length_cons, List.length_nil, List.length_replicate]; (first | lia | omega))) _ _ _ _ (by first | with_reducible assumption | exact Nat.le_trans (by with_reducible assumption) (by decide) | (first | lia | omega) | (simp only [List.length_append, List.length_cons, List.length_nil, List.length_replicate]; (first | lia | omega))) (by first | with_reducible assumption | exact Nat.le_trans (by with_reducible assumption) (by decide) | (first | lia | omega) | (simp only [List.length_append, List.length_cons, List.length_nil, List.length_replicate]; (first | lia | omega)))) (by k_asm) (by k_asm) (by k_asm) kN (by k_asm) (by first | exact rfl | assumption) (by (first | exact roomL (by with_reducible assumption) (by rfl) | exact roomL (by assumption) (by rfl) | ktr_room | ((dsimp only [ak]); ktr_room))) (by (first | exact roomU (by with_reducible assumption) (by rfl) | exact roomU (by assumption) (by rfl) | ktr_units | ((dsimp only [ak]); ktr_units))) ?_)
    clear kN
    intro tr9 vs9 k9 h9 tk9 hv9 F9 N9
    (try dsimp only [PL] at N9)
    (try dsimp only)
    (try k_sweep)
  k_with "my item" =>
    (with_reducible rename News _ _ _ _ => kN)
    (with_unfolding_all refine item_tupleT (News.isTup kN (List.mem_cons_of_mem _ (List.mem_cons_of_mem _ (List.mem_cons_of_mem _ hq)))) (by decide) (by decide) (by rfl) (by rfl) ?_)
  cases hP
  all_goals refine wpAny_call ?_
  all_goals k_dflt cell_enter
  all_goals (try (refine nameL ?_; intro ak; refine nameE ?_; intro ev))
  all_goals repeat' (first | (k_unfold; (try dsimp only)) | walk1 | (dsimp only; walk1) | fail "no step")
  all_goals (rename Fr _ _ _ _ => kF)
  all_goals (rename News _ _ _ _ => kN)
  · exact hret _ _ _ _ ⟨rfl, _, _, _, rfl, hv9⟩ kF kN
  · exact hret _ _ _ _ ⟨rfl, _, _, _, rfl, hv9⟩ kF kN
  · exact hret _ _ _ _ ⟨rfl, _, _, _, rfl, hv9⟩ kF kN
  · exact hret _ _ _ _ ⟨rfl, _, _, _, rfl, hv9⟩ kF kN
  · exact hret _ _ _ _ ⟨rfl, _, _, _, rfl, hv⟩ kF kN
end
end
/-! part E5 -/
section
theorem PartIs.ok {o : Obj} {q : Part} (h : PartIs o q) : q.ok := by
  cases h with
  | text t tk tt h => exact h
  | zone tk => trivial
  | tab c tk tc h => exact h
  | spc n tk tc h => exact h
  | glue tk => trivial
inductive PartsIn (own : Ledger) : List Value → List Part → Prop
  | nil : PartsIn own [] []
  | cons {q : Addr} {qo : Obj} {part : Part} {vs : List Value} {ps : List Part} : (q, qo) ∈ own → PartIs qo part → PartsIn own vs ps → PartsIn own (.ref q :: vs) (part :: ps)
theorem PartsIn.get {own : Ledger} {vs : List Value} {ps : List Part} (h : PartsIn own vs ps) : ∀ {i : Nat} {v : Value}, vs[i]? = some v → ∃ q qo part, v = .ref q ∧ (q, qo) ∈ own ∧ PartIs qo part ∧ ps[i]? = some part := by
  induction h with
  | nil => intro i v e; simp at e
  | cons hq hP _ ih =>
    intro i v e
    cases i with
    | zero => simp at e; exact ⟨_, _, _, e.symm, hq, hP, rfl⟩
    | succ i => simpa using ih (by simpa using e)
theorem PartsIn.get_l {own : Ledger} {vs : List Value} {ps : List Part} (h : PartsIn own vs ps) {i : Nat} {G : Value → Prop} (H : ∀ q qo part, (q, qo) ∈ own → PartIs qo part → ps[i]? = some part → G (.ref q)) : ∀ v, vs[i]? = some v → G v := by
  intro v hv
  obtain ⟨q, qo, part, rfl, hq, hP, hx⟩ := h.get hv
  exact H q qo part hq hP hx
theorem PartsIn.ok {own : Ledger} {vs : List Value} {ps : List Part} (h : PartsIn own vs ps) : ∀ q ∈ ps, q.ok := by
  induction h with
  | nil => intro q hq; nomatch hq
  | cons _ hP _ ih => intro q hq; rcases List.mem_cons.mp hq with rfl | hq; exact hP.ok; exact ih q hq
theorem PartsIn.len {own : Ledger} {vs : List Value} {ps : List Part} (h : PartsIn own vs ps) : vs.length = ps.length := by
  induction h with
  | nil => rfl
  | cons _ _ _ ih => simp [ih]
theorem off_app {own own9 : Ledger} {adr adr' : List Addr} (h : OwnOff own adr) (h9 : OwnOff own9 adr') (hs : ∀ b ∈ adr, b ∈ adr') : OwnOff (own ++ own9) adr := by
  intro p hp b hb
  rcases List.mem_append.mp hp with h1 | h1
  · exact h p h1 b hb
  · exact h9 p h1 b (hs b hb)
theorem take_snoc {α : Type} {l : List α} {i : Nat} {a : α} (h : l[i]? = some a) : l.take (i + 1) = l.take i ++ [a] := by
  rw [List.take_add_one, h]; rfl
theorem PL_sub {P : Params} {pg dx o : Addr} {t1 t2 : Tok} {row : List Nat} {tr : Tok} {vs : List Value} {k : Nat} {own own' : Ledger} (hs : ∀ p ∈ own, p ∈ own') : ∀ p ∈ PL P pg dx o t1 t2 row tr vs k own, p ∈ PL P pg dx o t1 t2 row tr vs k own' := by
  intro p hp
  rcases List.mem_cons.mp hp with rfl | hp
  · exact .head _
  rcases List.mem_cons.mp hp with rfl | hp
  · exact .tail _ (.head _)
  rcases List.mem_cons.mp hp with rfl | hp
  · exact .tail _ (.tail _ (.head _))
  exact .tail _ (.tail _ (.tail _ (hs p hp)))
theorem keeps_one {x y : Str} {a b : Option Value} {v : Value} {u m₀ : Str → Option Value} {z : Str} (h1 : z ≠ x) (hs : [y].contains z = false) :
    (if z = x then a else if z = y then b else kstB (fun z => if [y].contains z = true then u z else m₀ z) [(x, v)] z) = m₀ z := by
  have h2 : z ≠ y := by rintro rfl; simp at hs
  rw [if_neg h1, if_neg h2]
  show (if z = x then _ else _) = _
  rw [if_neg h1]
  show (if [y].contains z = true then _ else _) = _
  rw [hs]
  rfl
def Keeps (names : List (Str × Value)) (skip : List Str) (m₀ m : Str → Option Value) : Prop := (∀ q ∈ names, m q.1 = some q.2) ∧ ∀ z, (∀ q ∈ names, z ≠ q.1) → skip.contains z = false → m z = m₀ z
def WpJ (P : Params) (pg dx o : Addr) (t1 t2 : Tok) (own : Ledger) (zone width : Nat) (rows : List (List Nat)) (row : List Nat) (ps : List Part) (m₀ : Str → Option Value) (i : Nat) (m : Str → Option Value) (nx : Ledger) : Prop :=
  ∃ tr' vs' k', nx = PL P pg dx o t1 t2 (writeParts0 zone width (rows, row) (ps.take i)).2 tr' vs' k' own ∧ RowsAre vs' (writeParts0 zone width (rows, row) (ps.take i)).1 ∧ Keeps [(Str.ofString "is_ended", Value.bool (endsIn (ps.take i)))] [Str.ofString "part"] m₀ m
theorem WpJ.elim {P : Params} {pg dx o : Addr} {t1 t2 : Tok} {own : Ledger} {zone width : Nat} {rows : List (List Nat)} {row : List Nat} {ps : List Part} {m₀ : Str → Option Value} {i : Nat} {m : Str → Option Value} {G : Ledger → Prop}
    (H : ∀ tr' vs' k', RowsAre vs' (writeParts0 zone width (rows, row) (ps.take i)).1 → Keeps [(Str.ofString "is_ended", Value.bool (endsIn (ps.take i)))] [Str.ofString "part"] m₀ m → G (PL P pg dx o t1 t2 (writeParts0 zone width (rows, row) (ps.take i)).2 tr' vs' k' own)) : ∀ nx, WpJ P pg dx o t1 t2 own zone width rows row ps m₀ i m nx → G nx := by
  intro nx h
  obtain ⟨tr, vs, k, rfl, a, b⟩ := h
  exact H tr vs k a b
section
variable {prog : Program} {w : World} {p : Program} {loose : List Str} {mean : ExcName → Option Value} {mg mb : Str → Option Value}
theorem write_parts_ok (pg dx o : Addr) (t1 t2 tr : Tok) (row : List Nat) (rows : List (List Nat)) (vs : List Value) (k : Nat) (own : Ledger) (h1 : @Ne Nat pg dx) (h2 : @Ne Nat pg o) (h3 : @Ne Nat dx o) (ho : OwnOff own [pg, dx, o]) (hv : RowsAre vs rows) (lp : Addr) (pvs : List Value) (nn : Nat) (ps : List Part) (zone width : Nat) (tz tw : Tok) (hl : (lp, W.listOf pvs.toArray nn) ∈ own) (hps : PartsIn own pvs ps) (hz : 1 ≤ zone) (hz2 : zone ≤ 20) (hw : width ≤ 1000)
    (hsz : rows.length + 302 * ps.length ≤ 9000) (hr : row.length + 302 * ps.length ≤ 9000) :
  Ctr prog w p loose mean mg mb 114 5 [.ref pg, .ref lp, .int (zone : Int) tz, .int (width : Int) tw]
    (PL w.params pg dx o t1 t2 row tr vs k own)
    (fun v news' => v = .none ∧ ∃ (tr' : Tok) (vs' : List Value) (k' : Nat), news' = PL w.params pg dx o t1 t2 (writeParts zone width (rows, row) ps).2 tr' vs' k' own ∧ RowsAre vs' (writeParts zone width (rows, row) ps).1) := by
  have hlen := hps.len
  refine Ctr.of ?_
  intro dp un gd cn cs a ccd cl outer A₀ base h₀ L m hp gn dr tk0 os0 Q E B F X N Tp hk hdp hun hret
  (try dsimp only [PL] at N hret)
  w_on
  k_with_none
  k_with "call builtin:list.append" =>
    (k_here; (show wpAny _ _ (call (Value.builtin "list.append") [Value.ref _, _]) _ _ _); k_dflt (refine' append_K ?y1k1 ?y1k2 ?y1k3 ?_ ?y1z; (case y1k1 => k_asm); (case y1k2 => k_asm); (case y1k3 => k_upd); (case y1z => first | size_fits | (simp only [List.size_toArray, sizeLine_eq]; (first | lia | omega))); k_whole); intro h' F' N'; (try k_sweep))
  k_with "call builtin:len" =>
    ((with_reducible show wpAny _ _ (call (Value.builtin "len") [Value.str _ _]) _ _ _); (refine' len_X ?y2kx ?y2kz ?_; (case y2kx => first | exact rfl | exact T_nil | exact T_blank); (case y2kz => first | (first | lia | omega) | ((try simp only [List.length_append, List.length_replicate, List.length_nil, List.length_cons, List.length_take, List.length_drop]); (first | lia | omega))); k_whole))
  k_with "binaryOp Add str str" =>
    ((with_reducible show wpAny _ _ (binaryOp Operator.Add (Value.str _ _) (Value.str _ _)) _ _ _); (refine' add_X ?y3kx ?y3ky ?y3kz ?_; (case y3kx => first | exact rfl | exact T_nil | exact T_blank); (case y3ky => first | exact rfl | exact T_nil | exact T_blank); (case y3kz => first | (first | lia | omega) | ((try simp only [List.length_append, List.length_replicate, List.length_nil, List.length_cons, List.length_take, List.length_drop]); (first | lia | omega))); k_whole); intro _ _)
  k_with "compareOp Eq str str" =>
    ((with_reducible show wpAny _ _ (compareOp CmpOp.Eq (Value.str (T _) _) (Value.str _ _)) _ _ _); (refine' eq_X ?y4kx ?y4ky ?_; (case y4kx => first | exact rfl | exact T_nil | exact T_blank); (case y4ky => first | exact rfl | exact T_nil | exact T_blank); k_whole))
  k_with "compareOp Eq str str" =>
    ((with_reducible show wpAny _ _ (compareOp CmpOp.Eq (Value.str _ _) (Value.str (T _) _)) _ _ _); (refine' eq_X ?y5kx ?y5ky ?_; (case y5kx => first | exact rfl | exact T_nil | exact T_blank); (case y5ky => first | exact rfl | exact T_nil | exact T_blank); k_whole))
  k_with "compareOp NotEq str str" =>
    ((with_reducible show wpAny _ _ (compareOp CmpOp.NotEq (Value.str (T _) _) (Value.str _ _)) _ _ _); (refine' ne_X ?y6kx ?y6ky ?_; (case y6kx => first | exact rfl | exact T_nil | exact T_blank); (case y6ky => first | exact rfl | exact T_nil | exact T_blank); k_whole))
  k_with "compareOp NotEq str str" =>
    ((with_reducible show wpAny _ _ (compareOp CmpOp.NotEq (Value.str _ _) (Value.str (T _) _)) _ _ _); (refine' ne_X ?y7kx ?y7ky ?_; (case y7kx => first | exact rfl | exact T_nil | exact T_blank); (case y7ky => first | exact rfl | exact T_nil | exact T_blank); k_whole))
  k_with "binaryOp Mult str int" =>
    ((with_reducible show wpAny _ _ (binaryOp Operator.Mult (Value.str _ _) (Value.int _ _)) _ _ _); (refine' mul_X ?y8kx ?y8k0 ?y8kn ?_; (case y8kx => first | exact rfl | exact T_blank); (case y8k0 => first | (first | lia | omega) | (simp only [List.length_nil]; (first | lia | omega))); (case y8kn => first | (first | lia | omega) | (simp only [List.length_nil]; (first | lia | omega))); k_whole); intro _ _)
  k_with "subscriptTail Name Slice str ref" =>
    ((with_reducible show wpAny _ _ (subscriptTail _ (PySem.Expr.Slice none (some _) none _) (Value.str (T _) _) _) _ _ _); (with_reducible rename Fr _ _ _ _ => F'); (with_reducible rename News _ _ _ _ => N'); (refine' take_T (s := ⟨_, _, _, _, _⟩) ?y9k0 ?y9k1 ?y9kz F' N' ?_ ?y9ks ?y9kt; (case y9k0 => (first | lia | omega)); (case y9k1 => (first | lia | omega)); (case y9kz => (first | lia | omega)); (case y9ks => with_unfolding_all rfl); (case y9kt => intro _; with_unfolding_all rfl); k_whole); intro h' _ _ F' N')
  k_with "subscriptTail Name Slice str ref" =>
    ((with_reducible show wpAny _ _ (subscriptTail _ (PySem.Expr.Slice (some _) none none _) (Value.str (T _) _) _) _ _ _); (with_reducible rename Fr _ _ _ _ => F'); (with_reducible rename News _ _ _ _ => N'); (refine' drop_T (s := ⟨_, _, _, _, _⟩) ?y10k0 ?y10k1 ?y10kz F' N' ?_ ?y10ks ?y10kt; (case y10k0 => (first | lia | omega)); (case y10k1 => (first | lia | omega)); (case y10kz => (first | lia | omega)); (case y10ks => with_unfolding_all rfl); (case y10kt => intro _; with_unfolding_all rfl); k_whole); intro h' _ _ F' N')
  k_with "call ref" =>
    k_dflt (k_extra "my call")
  k_with "exec While" =>
    k_dflt (k_extra "my while")
  k_with "exec For" =>
    k_dflt (k_extra "my for")
  k_with "pyIter ref" =>
    k_dflt (k_extra "my iter")
  k_with "subscriptTail Name Constant ref int" =>
    k_dflt (k_extra "my item")
  k_with "binaryOp Add ref ref" =>
    (k_here; (show wpAny _ _ (binaryOp Operator.Add (Value.ref _) (Value.ref _)) _ _ _); k_dflt (refine' add_L ?y16k1 ?y16k2 ?y16k3 ?y16k4 ?_ ?y16z; (case y16k1 => k_asm); (case y16k2 => k_asm); (case y16k3 => k_mem); (case y16k4 => k_mem); (case y16z => first | (first | lia | omega) | (simp only [List.length_cons, List.length_nil, List.length_append]; (first | lia | omega))); k_whole); intro c9 h9 F9 N9 l9; (have lA := allLt_of l9); (try k_lt l9); (try dsimp only [List.append_nil, List.nil_append, List.cons_append] at N9); (try k_sweep))
  k_with "subscriptTail Constant" =>
    ((with_reducible show wpAny _ _ (subscriptTail _ (PySem.Expr.Slice (some _) (some _) none _) (Value.str (Str.ofString "abcdefghijklmnopqrst") _) _) _ _ _); (with_reducible rename Fr _ _ _ _ => F'); (with_reducible rename News _ _ _ _ => N'); (refine' cut_X (s := ⟨_, _, _, _, _⟩) alpha_T ?y17k0 ?y17k1 ?y17k2 ?y17kz F' N' ?_ ?y17ks ?y17kt; (case y17k0 => (first | lia | omega)); (case y17k1 => (first | lia | omega)); (case y17k2 => rw [List.length_range']; (first | lia | omega)); (case y17kz => rw [List.length_range']; decide); (case y17ks => with_unfolding_all rfl); (case y17kt => intro _; with_unfolding_all rfl); k_whole); intro h' _ _ F' N')
  k_with "subscriptTail Attribute" =>
    k_dflt (k_extra "my item2")
  k_with "call builtin:len" =>
    (k_here; (with_reducible show wpAny _ _ (call (Value.builtin "len") [Value.ref _]) _ _ _); k_dflt (refine' len_L ?y19k1 ?y19k2 ?y19z ?_; (case y19k1 => k_asm); (case y19k2 => first | k_mem | ((repeat' (first | assumption | refine List.mem_cons_of_mem _ ?_)); done)); (case y19z => first | (first | lia | omega) | ((try simp only [List.length_append, List.length_nil, List.length_cons]); (first | lia | omega))); k_whole))
  k_with "subscriptTail Attribute BinOp ref int" =>
    k_dflt (k_extra "my item2")
  k_with "eval ListComp" =>
    k_dflt (k_extra "my comp")
  k_with "CompSrc" =>
    k_dflt (k_extra "my src")
  k_with "CompSrcT" =>
    k_dflt (k_extra "my srcT")
  k_with "SrcLP" =>
    k_dflt (k_extra "my srcP")
  k_with "CompEnd" =>
    k_dflt (k_extra "my end")
  k_with "k_ne" =>
    first | with_reducible assumption | exact Ne.symm (by with_reducible assumption) | exact Nat.ne_of_lt (by with_reducible assumption) | exact Nat.ne_of_gt (by with_reducible assumption) | exact neL0 (by with_reducible assumption) | exact neR0 (by with_reducible assumption) | exact neL1 (by with_reducible assumption) | exact neR1 (by with_reducible assumption) | exact neL2 (by with_reducible assumption) | exact neR2 (by with_reducible assumption) | exact neL3 (by with_reducible assumption) | exact neR3 (by with_reducible assumption) | exact neL4 (by with_reducible assumption) | exact neR4 (by with_reducible assumption) | exact neL5 (by with_reducible assumption) | exact neR5 (by with_reducible assumption) | exact neL6 (by with_reducible assumption) | exact neR6 (by with_reducible assumption) | exact neL7 (by with_reducible assumption) | exact neR7 (by with_reducible assumption) | exact neL8 (by with_reducible assumption) | exact neR8 (by with_reducible assumption) | exact neL9 (by with_reducible assumption) | exact neR9 (by with_reducible assumption) | exact neL10 (by with_reducible assumption) | exact neR10 (by with_reducible assumption) | exact neL11 (by with_reducible assumption) | exact neR11 (by with_reducible assumption) | exact neL12 (by with_reducible assumption) | exact neR12 (by with_reducible assumption) | exact neL13 (by with_reducible assumption) | exact neR13 (by with_reducible assumption) | exact neTL0 (by with_reducible assumption) (by with_reducible assumption) | exact neTR0 (by with_reducible assumption) (by with_reducible assumption) | exact neTL1 (by with_reducible assumption) (by with_reducible assumption) | exact neTR1 (by with_reducible assumption) (by with_reducible assumption) | exact neTL2 (by with_reducible assumption) (by with_reducible assumption) | exact neTR2 (by with_reducible assumption) (by with_reducible assumption) | exact neTL3 (by with_reducible assumption) (by with_reducible assumption) | exact neTR3 (by with_reducible assumption) (by with_reducible assumption) | exact neTL4 (by with_reducible assumption) (by with_reducible assumption) | exact neTR4 (by with_reducible assumption) (by with_reducible assumption) | exact neTL5 (by with_reducible assumption) (by with_reducible assumption) | exact neTR5 (by with_reducible assumption) (by with_reducible assumption) | exact neTL6 (by with_reducible assumption) (by with_reducible assumption) | exact neTR6 (by with_reducible assumption) (by with_reducible assumption) | exact neTL7 (by with_reducible assumption) (by with_reducible assumption) | exact neTR7 (by with_reducible assumption) (by with_reducible assumption) | exact neTL8 (by with_reducible assumption) (by with_reducible assumption) | exact neTR8 (by with_reducible assumption) (by with_reducible assumption) | exact neTL9 (by with_reducible assumption) (by with_reducible assumption) | exact neTR9 (by with_reducible assumption) (by with_reducible assumption) | exact neQ0 (by with_reducible assumption) | exact Ne.symm (neQ0 (by with_reducible assumption)) | exact neQ1 (by with_reducible assumption) | exact Ne.symm (neQ1 (by with_reducible assumption)) | exact neQ2 (by with_reducible assumption) | exact Ne.symm (neQ2 (by with_reducible assumption)) | exact neQ3 (by with_reducible assumption) | exact Ne.symm (neQ3 (by with_reducible assumption)) | exact neQ4 (by with_reducible assumption) | exact Ne.symm (neQ4 (by with_reducible assumption)) | exact neQ5 (by with_reducible assumption) | exact Ne.symm (neQ5 (by with_reducible assumption)) | exact neQ6 (by with_reducible assumption) | exact Ne.symm (neQ6 (by with_reducible assumption)) | exact neQ7 (by with_reducible assumption) | exact Ne.symm (neQ7 (by with_reducible assumption)) | exact neQ8 (by with_reducible assumption) | exact Ne.symm (neQ8 (by with_reducible assumption)) | exact neQ9 (by with_reducible assumption) | exact Ne.symm (neQ9 (by with_reducible assumption))
  k_with "my call" =>
    (show wpAny _ _ (call (Value.ref 107) [_, _, _, _]) _ _ _)
    (with_reducible rename News _ _ _ _ => kN)
    (with_unfolding_all refine Ctr.useP (write_part_ok _ _ _ _ _ _ _ _ _ _ _ (by assumption) (by assumption) (by assumption) (by assumption) (by assumption) (by first | with_reducible assumption | exact Nat.le_trans (by with_reducible assumption) (by decide) | (first | lia | omega) | (simp only [List.length_append, List.length_cons, List.length_nil, List.length_replicate]; (first | lia | omega))) (by first | with_reducible assumption | exact Nat.le_trans (by with_reducible assumption) (by decide) | (first | lia | omega) | (simp only [List.length_append, List.length_cons, List.length_nil, List.length_replicate]; (first | lia | omega))) _ _ _ _ _ _ _ (by assumption) (by assumption) (by first | with_reducible assumption | exact Nat.le_trans (by with_reducible assumption) (by decide) | (first | lia | omega) | (simp only [List.length_append, List.length_cons, List.length_nil, List.length_replicate]; (first | lia | omega))) (by first | with_reducible assumption | exact Nat.le_trans (by with_reducible assumption) (by decide) | (first | lia | omega) | (simp only [List.length_append, List.length_cons, List.length_nil, List.length_replicate]; (first | lia | omega))) (by first | with_reducible assumption | exact Nat.le_trans (by with_reducible assumption) (by decide) | (first | lia | omega) | (simp only [List.length_append, List.length_cons, List.length_nil, List.length_replicate]; (first | lia | omega)))) (by k_asm) (by k_asm) (by k_asm) kN (by k_asm) (by first | exact rfl | assumption) (by (first | exact roomL (by with_reducible assumption) (by rfl) | exact roomL (by assumption) (by rfl) | ktr_room | ((dsimp only [ak]); ktr_room))) (by (first | exact roomU (by with_reducible assumption) (by rfl) | exact roomU (by assumption) (by rfl) | ktr_units | ((dsimp only [ak]); ktr_units))) ?_)
    clear kN
    intro tr9 vs9 k9 h9 tk9 hv9 F9 N9
    (try dsimp only [PL] at N9)
    (try dsimp only)
    (try k_sweep)
  k_with "my call" =>
    (show wpAny _ _ (call (Value.ref 65) [_]) _ _ _)
    (with_reducible rename News _ _ _ _ => kN)
    (with_unfolding_all refine Ctr.useP (end_row_ok _ _ _ _ _ _ _ _ _ _ _ (by assumption) (by assumption) (by assumption) (by assumption) (by assumption) (by first | with_reducible assumption | exact Nat.le_trans (by with_reducible assumption) (by decide) | (first | lia | omega) | (simp only [List.length_append, List.length_cons, List.length_nil, List.length_replicate]; (first | lia | omega)))) (by k_asm) (by k_asm) (by k_asm) kN (by k_asm) (by first | exact rfl | assumption) (by (first | exact roomL (by with_reducible assumption) (by rfl) | exact roomL (by assumption) (by rfl) | ktr_room | ((dsimp only [ak]); ktr_room))) (by (first | exact roomU (by with_reducible assumption) (by rfl) | exact roomU (by assumption) (by rfl) | ktr_units | ((dsimp only [ak]); ktr_units))) ?_)
    clear kN
    intro tr9 vs9 k9 h9 tk9 hv9 F9 N9
    (try dsimp only [PL] at N9)
    (try dsimp only)
    (try k_sweep)
  k_with "my for" =>
    (with_reducible rename Fr _ _ _ _ => lF')
    (with_unfolding_all refine For_invVF lF' (by rfl) (by rfl) ?_)
  k_with "my iter" =>
    (with_reducible rename Fr _ _ _ _ => lF')
    (with_reducible rename News _ _ _ _ => lN')
    (with_unfolding_all refine iter_val (WpJ w.params pg dx o t1 t2 own zone width rows row ps _) (by rfl) (List.mem_cons_of_mem _ (List.mem_cons_of_mem _ (List.mem_cons_of_mem _ hl))) lF' lN' ⟨_, _, _, rfl, hv, ⟨?_, fun z _ _ => rfl⟩⟩ ?_ ?_)
    · intro q hq; rcases List.mem_cons.mp hq with rfl | hq; with_unfolding_all exact rfl; nomatch hq
    intro i v m₁ news₁ h9 tk9 own9 hi hadr hoff hl1 hJ F1 N1
    clear hadr hl1
    revert N1
    revert hJ
    revert news₁
    refine WpJ.elim ?_
    intro tr9 vs9 k9 hv9 hK N1
    revert F1
    revert hi
    revert v
    refine hps.get_l ?_
    intro q qo part hq hP hpi F1
    have F2 := kst_fr hK.1 (fun z _ a b => hK.2 z a b) F1
    clear F1 lF' lN'
    have hq2 : (q, qo) ∈ own ++ own9 := List.mem_append_left _ hq
    have ho2 : OwnOff (own ++ own9) [pg, dx, o] := off_app ho hoff (fun b hb => List.mem_append_left (own.map Prod.fst) hb)
    have hg := writeParts0_grow (width := width) hz2 hz (rows, row) (ps.take i) (fun r hr => hps.ok r (List.mem_of_mem_take hr))
    have hi9 : i < ps.length := (List.getElem?_eq_some_iff.mp hpi).1
    simp only [List.length_take, Nat.min_eq_left (Nat.le_of_lt hi9)] at hg
    have hg1 : (writeParts0 zone width (rows, row) (ps.take i)).1.length ≤ 10000 := by (first | lia | omega)
    have hg2 : (writeParts0 zone width (rows, row) (ps.take i)).2.length ≤ 10000 := by (first | lia | omega)
    dsimp only [PL, List.cons_append] at N1
    (try dsimp only)
    (try k_fold)
    rotate_left
    intro m₁ news₁ h9 tk9 hadr hl1 hJ F1 N1
    clear hadr hl1
    revert N1
    revert hJ
    revert news₁
    refine WpJ.elim ?_
    intro tr9 vs9 k9 hv9 hK N1
    have F2 := ksw_fr hK.1 hK.2 F1
    clear F1 lF' lN'
    have hg := writeParts0_grow (width := width) hz2 hz (rows, row) ps hps.ok
    simp only [hlen, List.take_length] at hv9 N1 F2 hg
    have hg1 : (writeParts0 zone width (rows, row) ps).1.length ≤ 100000 := by (first | lia | omega)
    dsimp only [PL] at N1
    (try dsimp only)
    rotate_right
  refine wpAny_call ?_
  k_dflt cell_enter
  (try (refine nameL ?_; intro ak; refine nameE ?_; intro ev))
  repeat' (first | (k_unfold; (try dsimp only)) | walk1 | (dsimp only; walk1) | fail "no step")
  all_goals (rename Fr _ _ _ _ => kF)
  all_goals (rename News _ _ _ _ => kN)
  · have e : writeParts0 zone width (rows, row) (ps.take (i + 1)) = writePart zone width (writeParts0 zone width (rows, row) (ps.take i)) part := by rw [take_snoc hpi, writeParts0_snoc]
    refine InvEndN.intro (nx := PL w.params pg dx o t1 t2 (writeParts0 zone width (rows, row) (ps.take (i + 1))).2 tr9 vs9 k9 own) kF kN ⟨?_, tr9, vs9, k9, rfl, by rw [e]; exact hv9, ?_, ?_⟩ rfl ?_ ?_
    · exact List.mem_cons_of_mem _ (List.mem_cons_of_mem _ (List.mem_cons_of_mem _ hl))
    · intro q hq; rcases List.mem_cons.mp hq with rfl | hq
      · rw [take_snoc hpi, endsIn_snoc]; with_unfolding_all exact rfl
      · nomatch hq
    · intro z hz hs
      exact keeps_one (hz _ (List.Mem.head _)) hs
    · rw [e]; exact PL_sub (fun p hp => List.mem_append_left _ hp)
    · intro p hp
      exact List.mem_cons_of_mem _ (List.mem_cons_of_mem _ (List.mem_cons_of_mem _ (List.mem_append_right _ hp)))
  · have e : writeParts zone width (rows, row) ps = endRow (writeParts0 zone width (rows, row) ps) := by unfold writeParts; rw [if_pos (by assumption)]
    rw [e] at hret
    exact hret _ _ _ _ ⟨rfl, _, _, _, rfl, hv9⟩ kF kN
  · have e : writeParts zone width (rows, row) ps = writeParts0 zone width (rows, row) ps := by unfold writeParts; rw [if_neg (by simp [*])]
    rw [e] at hret
    exact hret _ _ _ _ ⟨rfl, _, _, _, rfl, hv9⟩ kF kN
end
end
/-! part E6 -/
section
theorem drop_two (a b : Addr × Obj) (l : Ledger) : ∀ p ∈ a :: l, p ∈ a :: b :: l := by
  intro p hp
  rcases List.mem_cons.mp hp with rfl | hp
  · exact .head _
  · exact .tail _ (.tail _ hp)
theorem mod_nat (a : Int) {b : Nat} (hb : 1 ≤ b) : ∃ r : Nat, Int.fmod a (b : Int) = (r : Int) ∧ r < b := by
  have h0 := Int.fmod_nonneg_of_pos a (show (0 : Int) < b by (first | lia | omega))
  have h1 := Int.fmod_lt_of_pos a (show (0 : Int) < b by (first | lia | omega))
  exact ⟨(Int.fmod a b).toNat, by (first | lia | omega), by (first | lia | omega)⟩
theorem alpha_T : Str.ofString "abcdefghijklmnopqrst" = T (List.range' 97 20) := by decide +kernel
/-- the ledger of a sack -/
abbrev SL (sk cl : Addr) (turn : Int) (tt : Tok) (ks : Nat) (cvs : List Value) (kc : Nat) (own : Ledger) : Ledger :=
  (sk, W.listOf [Value.ref cl, Value.int turn tt].toArray ks) :: (cl, W.listOf cvs.toArray kc) :: own
theorem Ctr.useT {prog : Program} {w : World} {p : Program} {loose : List Str} {mean : ExcName → Option Value} {mg mb : Str → Option Value} {f : Addr} {need : Nat} {vs : List Value} {news : Ledger}
    {dp un : Nat} {gd : Option (List Code)} {cn : Str} {cs : Scope} {a : Addr} {ccd : Value} {cl : List (Str × Addr)} {outer : List Env} {A₀ : Around} {base h₀ : Heap} {L : Addr} {m : Str → Option Value} {s : Shared} {Q E : Value → Shared → Prop} {sk cl9 : Addr} {turn below : Nat} {cvs : List Value} {kc : Nat} {own : Ledger}
    (C : Ctr prog w p loose mean mg mb f need vs news (fun v news' => ∃ (r : Nat) (t tt' : Tok) (ks' : Nat), v = .int (r : Int) t ∧ r < below ∧ news' = SL sk cl9 (turn : Nat) tt' ks' cvs kc own)) (B : Below A₀ base outer h₀) (F : Fr h₀ L s.heap m) (X : (hd.heap_39 w.params).In h₀) (N : News h₀ L s.heap news) (T : Top p loose mean mg mb h₀) (hk : cs.kind = .function)
    (hd : dp + need < recursionLimit) (hu : un + 8 * need < cLine)
    (ret : ∀ (r : Nat) t tt' ks' h' tk', r < below → Fr h₀ L h' m → News h₀ L h' (SL sk cl9 (turn : Nat) tt' ks' cvs kc own) → Q (.int (r : Int) t) { s with heap := h', toks := tk' }) :
    wpAny (model prog w) (ktrTop dp un gd cn cs L a ccd cl outer) (call (.ref f) vs) Q E s :=
  C.use B F X N T hk hd hu (by rintro v9 n9 h9 tk9 ⟨r9, tx9, tt9, ks9, rfl, hr9, rfl⟩ F9 N9; exact ret r9 tx9 tt9 ks9 h9 tk9 hr9 F9 N9)
theorem Ctr.useX {prog : Program} {w : World} {p : Program} {loose : List Str} {mean : ExcName → Option Value} {mg mb : Str → Option Value} {f : Addr} {need : Nat} {vs : List Value} {news : Ledger}
    {dp un : Nat} {gd : Option (List Code)} {cn : Str} {cs : Scope} {a : Addr} {ccd : Value} {cl : List (Str × Addr)} {outer : List Env} {A₀ : Around} {base h₀ : Heap} {L : Addr} {m : Str → Option Value} {s : Shared} {Q E : Value → Shared → Prop} {sk cl9 : Addr} {turn most : Nat} {cvs : List Value} {kc : Nat} {own : Ledger}
    (C : Ctr prog w p loose mean mg mb f need vs news (fun v news' => ∃ (tx : List Nat) (t tt' : Tok) (ks' : Nat), v = .str (Mine.T tx) t ∧ 1 ≤ tx.length ∧ tx.length ≤ most ∧ (∀ c ∈ tx, c ≠ 32) ∧ news' = SL sk cl9 (turn : Nat) tt' ks' cvs kc own)) (B : Below A₀ base outer h₀) (F : Fr h₀ L s.heap m) (X : (hd.heap_39 w.params).In h₀) (N : News h₀ L s.heap news) (T : Top p loose mean mg mb h₀) (hk : cs.kind = .function)
    (hd : dp + need < recursionLimit) (hu : un + 8 * need < cLine)
    (ret : ∀ tx t tt' ks' h' tk', 1 ≤ tx.length → tx.length ≤ most → (∀ c ∈ tx, c ≠ 32) → Fr h₀ L h' m → News h₀ L h' (SL sk cl9 (turn : Nat) tt' ks' cvs kc own) → Q (.str (Mine.T tx) t) { s with heap := h', toks := tk' }) :
    wpAny (model prog w) (ktrTop dp un gd cn cs L a ccd cl outer) (call (.ref f) vs) Q E s :=
  C.use B F X N T hk hd hu (by rintro v9 n9 h9 tk9 ⟨x9, tx9, tt9, ks9, rfl, hx1, hx8, hx9, rfl⟩ F9 N9; exact ret x9 tx9 tt9 ks9 h9 tk9 hx1 hx8 hx9 F9 N9)
section
variable {prog : Program} {w : World} {p : Program} {loose : List Str} {mean : ExcName → Option Value} {mg mb : Str → Option Value}
theorem column_of_ok (pg dx o : Addr) (t1 t2 tr : Tok) (row : List Nat) (rows : List (List Nat)) (vs : List Value) (k : Nat) (own : Ledger) (h1 : @Ne Nat pg dx) (h2 : @Ne Nat pg o) (h3 : @Ne Nat dx o) (ho : OwnOff own [pg, dx, o]) (hv : RowsAre vs rows) (hsz : rows.length ≤ 10000) (hr : row.length ≤ 10000) :
  Ctr prog w p loose mean mg mb 121 1 [.ref pg]
    (PL w.params pg dx o t1 t2 row tr vs k own)
    (fun v news' => ∃ t, v = .int (row.length + 1 : Int) t ∧ news' = PL w.params pg dx o t1 t2 row tr vs k own) := by
  refine Ctr.of ?_
  intro dp un gd cn cs a ccd cl outer A₀ base h₀ L m hp gn dr tk0 os0 Q E B F X N Tp hk hdp hun hret
  (try dsimp only [PL] at N hret)
  w_on
  k_with_none
  k_with "call builtin:list.append" =>
    (k_here; (show wpAny _ _ (call (Value.builtin "list.append") [Value.ref _, _]) _ _ _); k_dflt (refine' append_K ?y1k1 ?y1k2 ?y1k3 ?_ ?y1z; (case y1k1 => k_asm); (case y1k2 => k_asm); (case y1k3 => k_upd); (case y1z => first | size_fits | (simp only [List.size_toArray, sizeLine_eq]; (first | lia | omega))); k_whole); intro h' F' N'; (try k_sweep))
  k_with "call builtin:len" =>
    ((with_reducible show wpAny _ _ (call (Value.builtin "len") [Value.str _ _]) _ _ _); (refine' len_X ?y2kx ?y2kz ?_; (case y2kx => first | exact rfl | exact T_nil | exact T_blank); (case y2kz => first | (first | lia | omega) | ((try simp only [List.length_append, List.length_replicate, List.length_nil, List.length_cons, List.length_take, List.length_drop]); (first | lia | omega))); k_whole))
  k_with "binaryOp Add str str" =>
    ((with_reducible show wpAny _ _ (binaryOp Operator.Add (Value.str _ _) (Value.str _ _)) _ _ _); (refine' add_X ?y3kx ?y3ky ?y3kz ?_; (case y3kx => first | exact rfl | exact T_nil | exact T_blank); (case y3ky => first | exact rfl | exact T_nil | exact T_blank); (case y3kz => first | (first | lia | omega) | ((try simp only [List.length_append, List.length_replicate, List.length_nil, List.length_cons, List.length_take, List.length_drop]); (first | lia | omega))); k_whole); intro _ _)
  k_with "compareOp Eq str str" =>
    ((with_reducible show wpAny _ _ (compareOp CmpOp.Eq (Value.str (T _) _) (Value.str _ _)) _ _ _); (refine' eq_X ?y4kx ?y4ky ?_; (case y4kx => first | exact rfl | exact T_nil | exact T_blank); (case y4ky => first | exact rfl | exact T_nil | exact T_blank); k_whole))
  k_with "compareOp Eq str str" =>
    ((with_reducible show wpAny _ _ (compareOp CmpOp.Eq (Value.str _ _) (Value.str (T _) _)) _ _ _); (refine' eq_X ?y5kx ?y5ky ?_; (case y5kx => first | exact rfl | exact T_nil | exact T_blank); (case y5ky => first | exact rfl | exact T_nil | exact T_blank); k_whole))
  k_with "compareOp NotEq str str" =>
    ((with_reducible show wpAny _ _ (compareOp CmpOp.NotEq (Value.str (T _) _) (Value.str _ _)) _ _ _); (refine' ne_X ?y6kx ?y6ky ?_; (case y6kx => first | exact rfl | exact T_nil | exact T_blank); (case y6ky => first | exact rfl | exact T_nil | exact T_blank); k_whole))
  k_with "compareOp NotEq str str" =>
    ((with_reducible show wpAny _ _ (compareOp CmpOp.NotEq (Value.str _ _) (Value.str (T _) _)) _ _ _); (refine' ne_X ?y7kx ?y7ky ?_; (case y7kx => first | exact rfl | exact T_nil | exact T_blank); (case y7ky => first | exact rfl | exact T_nil | exact T_blank); k_whole))
  k_with "binaryOp Mult str int" =>
    ((with_reducible show wpAny _ _ (binaryOp Operator.Mult (Value.str _ _) (Value.int _ _)) _ _ _); (refine' mul_X ?y8kx ?y8k0 ?y8kn ?_; (case y8kx => first | exact rfl | exact T_blank); (case y8k0 => first | (first | lia | omega) | (simp only [List.length_nil]; (first | lia | omega))); (case y8kn => first | (first | lia | omega) | (simp only [List.length_nil]; (first | lia | omega))); k_whole); intro _ _)
  k_with "subscriptTail Name Slice str ref" =>
    ((with_reducible show wpAny _ _ (subscriptTail _ (PySem.Expr.Slice none (some _) none _) (Value.str (T _) _) _) _ _ _); (with_reducible rename Fr _ _ _ _ => F'); (with_reducible rename News _ _ _ _ => N'); (refine' take_T (s := ⟨_, _, _, _, _⟩) ?y9k0 ?y9k1 ?y9kz F' N' ?_ ?y9ks ?y9kt; (case y9k0 => (first | lia | omega)); (case y9k1 => (first | lia | omega)); (case y9kz => (first | lia | omega)); (case y9ks => with_unfolding_all rfl); (case y9kt => intro _; with_unfolding_all rfl); k_whole); intro h' _ _ F' N')
  k_with "subscriptTail Name Slice str ref" =>
    ((with_reducible show wpAny _ _ (subscriptTail _ (PySem.Expr.Slice (some _) none none _) (Value.str (T _) _) _) _ _ _); (with_reducible rename Fr _ _ _ _ => F'); (with_reducible rename News _ _ _ _ => N'); (refine' drop_T (s := ⟨_, _, _, _, _⟩) ?y10k0 ?y10k1 ?y10kz F' N' ?_ ?y10ks ?y10kt; (case y10k0 => (first | lia | omega)); (case y10k1 => (first | lia | omega)); (case y10kz => (first | lia | omega)); (case y10ks => with_unfolding_all rfl); (case y10kt => intro _; with_unfolding_all rfl); k_whole); intro h' _ _ F' N')
  k_with "call ref" =>
    k_dflt (k_extra "my call")
  k_with "exec While" =>
    k_dflt (k_extra "my while")
  k_with "exec For" =>
    k_dflt (k_extra "my for")
  k_with "pyIter ref" =>
    k_dflt (k_extra "my iter")
  k_with "subscriptTail Name Constant ref int" =>
    k_dflt (k_extra "my item")
  k_with "binaryOp Add ref ref" =>
    (k_here; (show wpAny _ _ (binaryOp Operator.Add (Value.ref _) (Value.ref _)) _ _ _); k_dflt (refine' add_L ?y16k1 ?y16k2 ?y16k3 ?y16k4 ?_ ?y16z; (case y16k1 => k_asm); (case y16k2 => k_asm); (case y16k3 => k_mem); (case y16k4 => k_mem); (case y16z => first | (first | lia | omega) | (simp only [List.length_cons, List.length_nil, List.length_append]; (first | lia | omega))); k_whole); intro c9 h9 F9 N9 l9; (have lA := allLt_of l9); (try k_lt l9); (try dsimp only [List.append_nil, List.nil_append, List.cons_append] at N9); (try k_sweep))
  k_with "subscriptTail Constant" =>
    ((with_reducible show wpAny _ _ (subscriptTail _ (PySem.Expr.Slice (some _) (some _) none _) (Value.str (Str.ofString "abcdefghijklmnopqrst") _) _) _ _ _); (with_reducible rename Fr _ _ _ _ => F'); (with_reducible rename News _ _ _ _ => N'); (refine' cut_X (s := ⟨_, _, _, _, _⟩) alpha_T ?y17k0 ?y17k1 ?y17k2 ?y17kz F' N' ?_ ?y17ks ?y17kt; (case y17k0 => (first | lia | omega)); (case y17k1 => (first | lia | omega)); (case y17k2 => rw [List.length_range']; (first | lia | omega)); (case y17kz => rw [List.length_range']; decide); (case y17ks => with_unfolding_all rfl); (case y17kt => intro _; with_unfolding_all rfl); k_whole); intro h' _ _ F' N')
  k_with "subscriptTail Attribute" =>
    k_dflt (k_extra "my item2")
  k_with "call builtin:len" =>
    (k_here; (with_reducible show wpAny _ _ (call (Value.builtin "len") [Value.ref _]) _ _ _); k_dflt (refine' len_L ?y19k1 ?y19k2 ?y19z ?_; (case y19k1 => k_asm); (case y19k2 => first | k_mem | ((repeat' (first | assumption | refine List.mem_cons_of_mem _ ?_)); done)); (case y19z => first | (first | lia | omega) | ((try simp only [List.length_append, List.length_nil, List.length_cons]); (first | lia | omega))); k_whole))
  k_with "subscriptTail Attribute BinOp ref int" =>
    k_dflt (k_extra "my item2")
  k_with "eval ListComp" =>
    k_dflt (k_extra "my comp")
  k_with "CompSrc" =>
    k_dflt (k_extra "my src")
  k_with "CompSrcT" =>
    k_dflt (k_extra "my srcT")
  k_with "SrcLP" =>
    k_dflt (k_extra "my srcP")
  k_with "CompEnd" =>
    k_dflt (k_extra "my end")
  k_with "k_ne" =>
    first | with_reducible assumption | exact Ne.symm (by with_reducible assumption) | exact Nat.ne_of_lt (by with_reducible assumption) | exact Nat.ne_of_gt (by with_reducible assumption) | exact neL0 (by with_reducible assumption) | exact neR0 (by with_reducible assumption) | exact neL1 (by with_reducible assumption) | exact neR1 (by with_reducible assumption) | exact neL2 (by with_reducible assumption) | exact neR2 (by with_reducible assumption) | exact neL3 (by with_reducible assumption) | exact neR3 (by with_reducible assumption) | exact neL4 (by with_reducible assumption) | exact neR4 (by with_reducible assumption) | exact neL5 (by with_reducible assumption) | exact neR5 (by with_reducible assumption) | exact neL6 (by with_reducible assumption) | exact neR6 (by with_reducible assumption) | exact neL7 (by with_reducible assumption) | exact neR7 (by with_reducible assumption) | exact neL8 (by with_reducible assumption) | exact neR8 (by with_reducible assumption) | exact neL9 (by with_reducible assumption) | exact neR9 (by with_reducible assumption) | exact neL10 (by with_reducible assumption) | exact neR10 (by with_reducible assumption) | exact neL11 (by with_reducible assumption) | exact neR11 (by with_reducible assumption) | exact neL12 (by with_reducible assumption) | exact neR12 (by with_reducible assumption) | exact neL13 (by with_reducible assumption) | exact neR13 (by with_reducible assumption) | exact neTL0 (by with_reducible assumption) (by with_reducible assumption) | exact neTR0 (by with_reducible assumption) (by with_reducible assumption) | exact neTL1 (by with_reducible assumption) (by with_reducible assumption) | exact neTR1 (by with_reducible assumption) (by with_reducible assumption) | exact neTL2 (by with_reducible assumption) (by with_reducible assumption) | exact neTR2 (by with_reducible assumption) (by with_reducible assumption) | exact neTL3 (by with_reducible assumption) (by with_reducible assumption) | exact neTR3 (by with_reducible assumption) (by with_reducible assumption) | exact neTL4 (by with_reducible assumption) (by with_reducible assumption) | exact neTR4 (by with_reducible assumption) (by with_reducible assumption) | exact neTL5 (by with_reducible assumption) (by with_reducible assumption) | exact neTR5 (by with_reducible assumption) (by with_reducible assumption) | exact neTL6 (by with_reducible assumption) (by with_reducible assumption) | exact neTR6 (by with_reducible assumption) (by with_reducible assumption) | exact neTL7 (by with_reducible assumption) (by with_reducible assumption) | exact neTR7 (by with_reducible assumption) (by with_reducible assumption) | exact neTL8 (by with_reducible assumption) (by with_reducible assumption) | exact neTR8 (by with_reducible assumption) (by with_reducible assumption) | exact neTL9 (by with_reducible assumption) (by with_reducible assumption) | exact neTR9 (by with_reducible assumption) (by with_reducible assumption) | exact neQ0 (by with_reducible assumption) | exact Ne.symm (neQ0 (by with_reducible assumption)) | exact neQ1 (by with_reducible assumption) | exact Ne.symm (neQ1 (by with_reducible assumption)) | exact neQ2 (by with_reducible assumption) | exact Ne.symm (neQ2 (by with_reducible assumption)) | exact neQ3 (by with_reducible assumption) | exact Ne.symm (neQ3 (by with_reducible assumption)) | exact neQ4 (by with_reducible assumption) | exact Ne.symm (neQ4 (by with_reducible assumption)) | exact neQ5 (by with_reducible assumption) | exact Ne.symm (neQ5 (by with_reducible assumption)) | exact neQ6 (by with_reducible assumption) | exact Ne.symm (neQ6 (by with_reducible assumption)) | exact neQ7 (by with_reducible assumption) | exact Ne.symm (neQ7 (by with_reducible assumption)) | exact neQ8 (by with_reducible assumption) | exact Ne.symm (neQ8 (by with_reducible assumption)) | exact neQ9 (by with_reducible assumption) | exact Ne.symm (neQ9 (by with_reducible assumption))
  refine wpAny_call ?_
  k_dflt cell_enter
  (try (refine nameL ?_; intro ak; refine nameE ?_; intro ev))
  repeat' (first | (k_unfold; (try dsimp only)) | walk1 | (dsimp only; walk1) | fail "no step")
  all_goals (rename Fr _ _ _ _ => kF)
  all_goals (rename News _ _ _ _ => kN)
  exact hret _ _ _ _ ⟨_, rfl, rfl⟩ kF kN
theorem all_rows_ok (pg dx o : Addr) (t1 t2 tr : Tok) (row : List Nat) (rows : List (List Nat)) (vs : List Value) (k : Nat) (own : Ledger) (h1 : @Ne Nat pg dx) (h2 : @Ne Nat pg o) (h3 : @Ne Nat dx o) (ho : OwnOff own [pg, dx, o]) (hv : RowsAre vs rows) (hsz : rows.length ≤ 10000) (hr : row.length ≤ 10000) :
  Ctr prog w p loose mean mg mb 128 1 [.ref pg]
    (PL w.params pg dx o t1 t2 row tr vs k own)
    (fun v news' => ∃ (la : Addr) (ws : List Value), v = .ref la ∧ AllLt la (PL w.params pg dx o t1 t2 row tr vs k own) ∧ news' = (la, W.listOf ws.toArray 0) :: PL w.params pg dx o t1 t2 row tr vs k own ∧ RowsAre ws (allRows (rows, row))) := by
  have hlen := hv.len
  refine Ctr.of ?_
  intro dp un gd cn cs a ccd cl outer A₀ base h₀ L m hp gn dr tk0 os0 Q E B F X N Tp hk hdp hun hret
  (try dsimp only [PL] at N hret)
  w_on
  k_with_none
  k_with "call builtin:list.append" =>
    (k_here; (show wpAny _ _ (call (Value.builtin "list.append") [Value.ref _, _]) _ _ _); k_dflt (refine' append_K ?y1k1 ?y1k2 ?y1k3 ?_ ?y1z; (case y1k1 => k_asm); (case y1k2 => k_asm); (case y1k3 => k_upd); (case y1z => first | size_fits | (simp only [List.size_toArray, sizeLine_eq]; (first | lia | omega))); k_whole); intro h' F' N'; (try k_sweep))
  k_with "call builtin:len" =>
    ((with_reducible show wpAny _ _ (call (Value.builtin "len") [Value.str _ _]) _ _ _); (refine' len_X ?y2kx ?y2kz ?_; (case y2kx => first | exact rfl | exact T_nil | exact T_blank); (case y2kz => first | (first | lia | omega) | ((try simp only [List.length_append, List.length_replicate, List.length_nil, List.length_cons, List.length_take, List.length_drop]); (first | lia | omega))); k_whole))
  k_with "binaryOp Add str str" =>
    ((with_reducible show wpAny _ _ (binaryOp Operator.Add (Value.str _ _) (Value.str _ _)) _ _ _); (refine' add_X ?y3kx ?y3ky ?y3kz ?_; (case y3kx => first | exact rfl | exact T_nil | exact T_blank); (case y3ky => first | exact rfl | exact T_nil | exact T_blank); (case y3kz => first | (first | lia | omega) | ((try simp only [List.length_append, List.length_replicate, List.length_nil, List.length_cons, List.length_take, List.length_drop]); (first | lia | omega))); k_whole); intro _ _)
  k_with "compareOp Eq str str" =>
    ((with_reducible show wpAny _ _ (compareOp CmpOp.Eq (Value.str (T _) _) (Value.str _ _)) _ _ _); (refine' eq_X ?y4kx ?y4ky ?_; (case y4kx => first | exact rfl | exact T_nil | exact T_blank); (case y4ky => first | exact rfl | exact T_nil | exact T_blank); k_whole))
  k_with "compareOp Eq str str" =>
    ((with_reducible show wpAny _ _ (compareOp CmpOp.Eq (Value.str _ _) (Value.str (T _) _)) _ _ _); (refine' eq_X ?y5kx ?y5ky ?_; (case y5kx => first | exact rfl | exact T_nil | exact T_blank); (case y5ky => first | exact rfl | exact T_nil | exact T_blank); k_whole))
  k_with "compareOp NotEq str str" =>
    ((with_reducible show wpAny _ _ (compareOp CmpOp.NotEq (Value.str (T _) _) (Value.str _ _)) _ _ _); (refine' ne_X ?y6kx ?y6ky ?_; (case y6kx => first | exact rfl | exact T_nil | exact T_blank); (case y6ky => first | exact rfl | exact T_nil | exact T_blank); k_whole))
  k_with "compareOp NotEq str str" =>
    ((with_reducible show wpAny _ _ (compareOp CmpOp.NotEq (Value.str _ _) (Value.str (T _) _)) _ _ _); (refine' ne_X ?y7kx ?y7ky ?_; (case y7kx => first | exact rfl | exact T_nil | exact T_blank); (case y7ky => first | exact rfl | exact T_nil | exact T_blank); k_whole))
  k_with "binaryOp Mult str int" =>
    ((with_reducible show wpAny _ _ (binaryOp Operator.Mult (Value.str _ _) (Value.int _ _)) _ _ _); (refine' mul_X ?y8kx ?y8k0 ?y8kn ?_; (case y8kx => first | exact rfl | exact T_blank); (case y8k0 => first | (first | lia | omega) | (simp only [List.length_nil]; (first | lia | omega))); (case y8kn => first | (first | lia | omega) | (simp only [List.length_nil]; (first | lia | omega))); k_whole); intro _ _)
  k_with "subscriptTail Name Slice str ref" =>
    ((with_reducible show wpAny _ _ (subscriptTail _ (PySem.Expr.Slice none (some _) none _) (Value.str (T _) _) _) _ _ _); (with_reducible rename Fr _ _ _ _ => F'); (with_reducible rename News _ _ _ _ => N'); (refine' take_T (s := ⟨_, _, _, _, _⟩) ?y9k0 ?y9k1 ?y9kz F' N' ?_ ?y9ks ?y9kt; (case y9k0 => (first | lia | omega)); (case y9k1 => (first | lia | omega)); (case y9kz => (first | lia | omega)); (case y9ks => with_unfolding_all rfl); (case y9kt => intro _; with_unfolding_all rfl); k_whole); intro h' _ _ F' N')
  k_with "subscriptTail Name Slice str ref" =>
    ((with_reducible show wpAny _ _ (subscriptTail _ (PySem.Expr.Slice (some _) none none _) (Value.str (T _) _) _) _ _ _); (with_reducible rename Fr _ _ _ _ => F'); (with_reducible rename News _ _ _ _ => N'); (refine' drop_T (s := ⟨_, _, _, _, _⟩) ?y10k0 ?y10k1 ?y10kz F' N' ?_ ?y10ks ?y10kt; (case y10k0 => (first | lia | omega)); (case y10k1 => (first | lia | omega)); (case y10kz => (first | lia | omega)); (case y10ks => with_unfolding_all rfl); (case y10kt => intro _; with_unfolding_all rfl); k_whole); intro h' _ _ F' N')
  k_with "call ref" =>
    k_dflt (k_extra "my call")
  k_with "exec While" =>
    k_dflt (k_extra "my while")
  k_with "exec For" =>
    k_dflt (k_extra "my for")
  k_with "pyIter ref" =>
    k_dflt (k_extra "my iter")
  k_with "subscriptTail Name Constant ref int" =>
    k_dflt (k_extra "my item")
  k_with "binaryOp Add ref ref" =>
    (k_here; (show wpAny _ _ (binaryOp Operator.Add (Value.ref _) (Value.ref _)) _ _ _); k_dflt (refine' add_L ?y16k1 ?y16k2 ?y16k3 ?y16k4 ?_ ?y16z; (case y16k1 => k_asm); (case y16k2 => k_asm); (case y16k3 => k_mem); (case y16k4 => k_mem); (case y16z => first | (first | lia | omega) | (simp only [List.length_cons, List.length_nil, List.length_append]; (first | lia | omega))); k_whole); intro c9 h9 F9 N9 l9; (have lA := allLt_of l9); (try k_lt l9); (try dsimp only [List.append_nil, List.nil_append, List.cons_append] at N9); (try k_sweep))
  k_with "subscriptTail Constant" =>
    ((with_reducible show wpAny _ _ (subscriptTail _ (PySem.Expr.Slice (some _) (some _) none _) (Value.str (Str.ofString "abcdefghijklmnopqrst") _) _) _ _ _); (with_reducible rename Fr _ _ _ _ => F'); (with_reducible rename News _ _ _ _ => N'); (refine' cut_X (s := ⟨_, _, _, _, _⟩) alpha_T ?y17k0 ?y17k1 ?y17k2 ?y17kz F' N' ?_ ?y17ks ?y17kt; (case y17k0 => (first | lia | omega)); (case y17k1 => (first | lia | omega)); (case y17k2 => rw [List.length_range']; (first | lia | omega)); (case y17kz => rw [List.length_range']; decide); (case y17ks => with_unfolding_all rfl); (case y17kt => intro _; with_unfolding_all rfl); k_whole); intro h' _ _ F' N')
  k_with "subscriptTail Attribute" =>
    k_dflt (k_extra "my item2")
  k_with "call builtin:len" =>
    (k_here; (with_reducible show wpAny _ _ (call (Value.builtin "len") [Value.ref _]) _ _ _); k_dflt (refine' len_L ?y19k1 ?y19k2 ?y19z ?_; (case y19k1 => k_asm); (case y19k2 => first | k_mem | ((repeat' (first | assumption | refine List.mem_cons_of_mem _ ?_)); done)); (case y19z => first | (first | lia | omega) | ((try simp only [List.length_append, List.length_nil, List.length_cons]); (first | lia | omega))); k_whole))
  k_with "subscriptTail Attribute BinOp ref int" =>
    k_dflt (k_extra "my item2")
  k_with "eval ListComp" =>
    k_dflt (k_extra "my comp")
  k_with "CompSrc" =>
    k_dflt (k_extra "my src")
  k_with "CompSrcT" =>
    k_dflt (k_extra "my srcT")
  k_with "SrcLP" =>
    k_dflt (k_extra "my srcP")
  k_with "CompEnd" =>
    k_dflt (k_extra "my end")
  k_with "k_ne" =>
    first | with_reducible assumption | exact Ne.symm (by with_reducible assumption) | exact Nat.ne_of_lt (by with_reducible assumption) | exact Nat.ne_of_gt (by with_reducible assumption) | exact neL0 (by with_reducible assumption) | exact neR0 (by with_reducible assumption) | exact neL1 (by with_reducible assumption) | exact neR1 (by with_reducible assumption) | exact neL2 (by with_reducible assumption) | exact neR2 (by with_reducible assumption) | exact neL3 (by with_reducible assumption) | exact neR3 (by with_reducible assumption) | exact neL4 (by with_reducible assumption) | exact neR4 (by with_reducible assumption) | exact neL5 (by with_reducible assumption) | exact neR5 (by with_reducible assumption) | exact neL6 (by with_reducible assumption) | exact neR6 (by with_reducible assumption) | exact neL7 (by with_reducible assumption) | exact neR7 (by with_reducible assumption) | exact neL8 (by with_reducible assumption) | exact neR8 (by with_reducible assumption) | exact neL9 (by with_reducible assumption) | exact neR9 (by with_reducible assumption) | exact neL10 (by with_reducible assumption) | exact neR10 (by with_reducible assumption) | exact neL11 (by with_reducible assumption) | exact neR11 (by with_reducible assumption) | exact neL12 (by with_reducible assumption) | exact neR12 (by with_reducible assumption) | exact neL13 (by with_reducible assumption) | exact neR13 (by with_reducible assumption) | exact neTL0 (by with_reducible assumption) (by with_reducible assumption) | exact neTR0 (by with_reducible assumption) (by with_reducible assumption) | exact neTL1 (by with_reducible assumption) (by with_reducible assumption) | exact neTR1 (by with_reducible assumption) (by with_reducible assumption) | exact neTL2 (by with_reducible assumption) (by with_reducible assumption) | exact neTR2 (by with_reducible assumption) (by with_reducible assumption) | exact neTL3 (by with_reducible assumption) (by with_reducible assumption) | exact neTR3 (by with_reducible assumption) (by with_reducible assumption) | exact neTL4 (by with_reducible assumption) (by with_reducible assumption) | exact neTR4 (by with_reducible assumption) (by with_reducible assumption) | exact neTL5 (by with_reducible assumption) (by with_reducible assumption) | exact neTR5 (by with_reducible assumption) (by with_reducible assumption) | exact neTL6 (by with_reducible assumption) (by with_reducible assumption) | exact neTR6 (by with_reducible assumption) (by with_reducible assumption) | exact neTL7 (by with_reducible assumption) (by with_reducible assumption) | exact neTR7 (by with_reducible assumption) (by with_reducible assumption) | exact neTL8 (by with_reducible assumption) (by with_reducible assumption) | exact neTR8 (by with_reducible assumption) (by with_reducible assumption) | exact neTL9 (by with_reducible assumption) (by with_reducible assumption) | exact neTR9 (by with_reducible assumption) (by with_reducible assumption) | exact neQ0 (by with_reducible assumption) | exact Ne.symm (neQ0 (by with_reducible assumption)) | exact neQ1 (by with_reducible assumption) | exact Ne.symm (neQ1 (by with_reducible assumption)) | exact neQ2 (by with_reducible assumption) | exact Ne.symm (neQ2 (by with_reducible assumption)) | exact neQ3 (by with_reducible assumption) | exact Ne.symm (neQ3 (by with_reducible assumption)) | exact neQ4 (by with_reducible assumption) | exact Ne.symm (neQ4 (by with_reducible assumption)) | exact neQ5 (by with_reducible assumption) | exact Ne.symm (neQ5 (by with_reducible assumption)) | exact neQ6 (by with_reducible assumption) | exact Ne.symm (neQ6 (by with_reducible assumption)) | exact neQ7 (by with_reducible assumption) | exact Ne.symm (neQ7 (by with_reducible assumption)) | exact neQ8 (by with_reducible assumption) | exact Ne.symm (neQ8 (by with_reducible assumption)) | exact neQ9 (by with_reducible assumption) | exact Ne.symm (neQ9 (by with_reducible assumption))
  refine wpAny_call ?_
  k_dflt cell_enter
  (try (refine nameL ?_; intro ak; refine nameE ?_; intro ev))
  repeat' (first | (k_unfold; (try dsimp only)) | walk1 | (dsimp only; walk1) | fail "no step")
  all_goals (rename Fr _ _ _ _ => kF)
  all_goals (rename News _ _ _ _ => kN)
  · have e : allRows (rows, row) = rows ++ [row] := by unfold allRows; rw [if_neg (by assumption)]
    rw [e] at hret
    (rename AllLt _ (_ :: _ :: _) => lA)
    exact hret _ _ _ _ ⟨_, _, rfl, lA.2, rfl, hv.snoc _ _⟩ kF (news_of kN (drop_two _ _ _))
  · have e : allRows (rows, row) = rows := by unfold allRows; rw [if_pos (by simpa using ‹¬ row ≠ []›)]; simp
    rw [e] at hret
    (rename AllLt _ (_ :: _ :: _) => lA)
    exact hret _ _ _ _ ⟨_, _, rfl, lA.2, rfl, by simpa using hv⟩ kF (news_of kN (drop_two _ _ _))
theorem take_ok (sk cl : Addr) (turn below : Nat) (tt tb : Tok) (ks kc : Nat) (cvs : List Value) (ns : List Int) (own : Ledger) (h1 : @Ne Nat sk cl) (ho : OwnOff own [sk, cl]) (hI : IntsAre cvs ns) (hn : ns.length ≤ 100) (ht : turn ≤ 1000) (hb : 1 ≤ below) (hb2 : below ≤ 1000) :
  Ctr prog w p loose mean mg mb 135 1 [.ref sk, .int (below : Int) tb]
    (SL sk cl turn tt ks cvs kc own)
    (fun v news' => ∃ (r : Nat) (t tt' : Tok) (ks' : Nat), v = .int (r : Int) t ∧ r < below ∧ news' = SL sk cl (turn + 1 : Nat) tt' ks' cvs kc own) := by
  refine Ctr.of ?_
  intro dp un gd cn cs a ccd cl outer A₀ base h₀ L m hp gn dr tk0 os0 Q E B F X N Tp hk hdp hun hret
  (try dsimp only [PL] at N hret)
  w_on
  k_with_none
  k_with "call builtin:list.append" =>
    (k_here; (show wpAny _ _ (call (Value.builtin "list.append") [Value.ref _, _]) _ _ _); k_dflt (refine' append_K ?y1k1 ?y1k2 ?y1k3 ?_ ?y1z; (case y1k1 => k_asm); (case y1k2 => k_asm); (case y1k3 => k_upd); (case y1z => first | size_fits | (simp only [List.size_toArray, sizeLine_eq]; (first | lia | omega))); k_whole); intro h' F' N'; (try k_sweep))
  k_with "call builtin:len" =>
    ((with_reducible show wpAny _ _ (call (Value.builtin "len") [Value.str _ _]) _ _ _); (refine' len_X ?y2kx ?y2kz ?_; (case y2kx => first | exact rfl | exact T_nil | exact T_blank); (case y2kz => first | (first | lia | omega) | ((try simp only [List.length_append, List.length_replicate, List.length_nil, List.length_cons, List.length_take, List.length_drop]); (first | lia | omega))); k_whole))
  k_with "binaryOp Add str str" =>
    ((with_reducible show wpAny _ _ (binaryOp Operator.Add (Value.str _ _) (Value.str _ _)) _ _ _); (refine' add_X ?y3kx ?y3ky ?y3kz ?_; (case y3kx => first | exact rfl | exact T_nil | exact T_blank); (case y3ky => first | exact rfl | exact T_nil | exact T_blank); (case y3kz => first | (first | lia | omega) | ((try simp only [List.length_append, List.length_replicate, List.length_nil, List.length_cons, List.length_take, List.length_drop]); (first | lia | omega))); k_whole); intro _ _)
  k_with "compareOp Eq str str" =>
    ((with_reducible show wpAny _ _ (compareOp CmpOp.Eq (Value.str (T _) _) (Value.str _ _)) _ _ _); (refine' eq_X ?y4kx ?y4ky ?_; (case y4kx => first | exact rfl | exact T_nil | exact T_blank); (case y4ky => first | exact rfl | exact T_nil | exact T_blank); k_whole))
  k_with "compareOp Eq str str" =>
    ((with_reducible show wpAny _ _ (compareOp CmpOp.Eq (Value.str _ _) (Value.str (T _) _)) _ _ _); (refine' eq_X ?y5kx ?y5ky ?_; (case y5kx => first | exact rfl | exact T_nil | exact T_blank); (case y5ky => first | exact rfl | exact T_nil | exact T_blank); k_whole))
  k_with "compareOp NotEq str str" =>
    ((with_reducible show wpAny _ _ (compareOp CmpOp.NotEq (Value.str (T _) _) (Value.str _ _)) _ _ _); (refine' ne_X ?y6kx ?y6ky ?_; (case y6kx => first | exact rfl | exact T_nil | exact T_blank); (case y6ky => first | exact rfl | exact T_nil | exact T_blank); k_whole))
  k_with "compareOp NotEq str str" =>
    ((with_reducible show wpAny _ _ (compareOp CmpOp.NotEq (Value.str _ _) (Value.str (T _) _)) _ _ _); (refine' ne_X ?y7kx ?y7ky ?_; (case y7kx => first | exact rfl | exact T_nil | exact T_blank); (case y7ky => first | exact rfl | exact T_nil | exact T_blank); k_whole))
  k_with "binaryOp Mult str int" =>
    ((with_reducible show wpAny _ _ (binaryOp Operator.Mult (Value.str _ _) (Value.int _ _)) _ _ _); (refine' mul_X ?y8kx ?y8k0 ?y8kn ?_; (case y8kx => first | exact rfl | exact T_blank); (case y8k0 => first | (first | lia | omega) | (simp only [List.length_nil]; (first | lia | omega))); (case y8kn => first | (first | lia | omega) | (simp only [List.length_nil]; (first | lia | omega))); k_whole); intro _ _)
  k_with "subscriptTail Name Slice str ref" =>
    ((with_reducible show wpAny _ _ (subscriptTail _ (PySem.Expr.Slice none (some _) none _) (Value.str (T _) _) _) _ _ _); (with_reducible rename Fr _ _ _ _ => F'); (with_reducible rename News _ _ _ _ => N'); (refine' take_T (s := ⟨_, _, _, _, _⟩) ?y9k0 ?y9k1 ?y9kz F' N' ?_ ?y9ks ?y9kt; (case y9k0 => (first | lia | omega)); (case y9k1 => (first | lia | omega)); (case y9kz => (first | lia | omega)); (case y9ks => with_unfolding_all rfl); (case y9kt => intro _; with_unfolding_all rfl); k_whole); intro h' _ _ F' N')
  k_with "subscriptTail Name Slice str ref" =>
    ((with_reducible show wpAny _ _ (subscriptTail _ (PySem.Expr.Slice (some _) none none _) (Value.str (T _) _) _) _ _ _); (with_reducible rename Fr _ _ _ _ => F'); (with_reducible rename News _ _ _ _ => N'); (refine' drop_T (s := ⟨_, _, _, _, _⟩) ?y10k0 ?y10k1 ?y10kz F' N' ?_ ?y10ks ?y10kt; (case y10k0 => (first | lia | omega)); (case y10k1 => (first | lia | omega)); (case y10kz => (first | lia | omega)); (case y10ks => with_unfolding_all rfl); (case y10kt => intro _; with_unfolding_all rfl); k_whole); intro h' _ _ F' N')
  k_with "call ref" =>
    k_dflt (k_extra "my call")
  k_with "exec While" =>
    k_dflt (k_extra "my while")
  k_with "exec For" =>
    k_dflt (k_extra "my for")
  k_with "pyIter ref" =>
    k_dflt (k_extra "my iter")
  k_with "subscriptTail Name Constant ref int" =>
    k_dflt (k_extra "my item")
  k_with "binaryOp Add ref ref" =>
    (k_here; (show wpAny _ _ (binaryOp Operator.Add (Value.ref _) (Value.ref _)) _ _ _); k_dflt (refine' add_L ?y16k1 ?y16k2 ?y16k3 ?y16k4 ?_ ?y16z; (case y16k1 => k_asm); (case y16k2 => k_asm); (case y16k3 => k_mem); (case y16k4 => k_mem); (case y16z => first | (first | lia | omega) | (simp only [List.length_cons, List.length_nil, List.length_append]; (first | lia | omega))); k_whole); intro c9 h9 F9 N9 l9; (have lA := allLt_of l9); (try k_lt l9); (try dsimp only [List.append_nil, List.nil_append, List.cons_append] at N9); (try k_sweep))
  k_with "subscriptTail Constant" =>
    ((with_reducible show wpAny _ _ (subscriptTail _ (PySem.Expr.Slice (some _) (some _) none _) (Value.str (Str.ofString "abcdefghijklmnopqrst") _) _) _ _ _); (with_reducible rename Fr _ _ _ _ => F'); (with_reducible rename News _ _ _ _ => N'); (refine' cut_X (s := ⟨_, _, _, _, _⟩) alpha_T ?y17k0 ?y17k1 ?y17k2 ?y17kz F' N' ?_ ?y17ks ?y17kt; (case y17k0 => (first | lia | omega)); (case y17k1 => (first | lia | omega)); (case y17k2 => rw [List.length_range']; (first | lia | omega)); (case y17kz => rw [List.length_range']; decide); (case y17ks => with_unfolding_all rfl); (case y17kt => intro _; with_unfolding_all rfl); k_whole); intro h' _ _ F' N')
  k_with "subscriptTail Attribute" =>
    k_dflt (k_extra "my item2")
  k_with "call builtin:len" =>
    (k_here; (with_reducible show wpAny _ _ (call (Value.builtin "len") [Value.ref _]) _ _ _); k_dflt (refine' len_L ?y19k1 ?y19k2 ?y19z ?_; (case y19k1 => k_asm); (case y19k2 => first | k_mem | ((repeat' (first | assumption | refine List.mem_cons_of_mem _ ?_)); done)); (case y19z => first | (first | lia | omega) | ((try simp only [List.length_append, List.length_nil, List.length_cons]); (first | lia | omega))); k_whole))
  k_with "subscriptTail Attribute BinOp ref int" =>
    k_dflt (k_extra "my item2")
  k_with "eval ListComp" =>
    k_dflt (k_extra "my comp")
  k_with "CompSrc" =>
    k_dflt (k_extra "my src")
  k_with "CompSrcT" =>
    k_dflt (k_extra "my srcT")
  k_with "SrcLP" =>
    k_dflt (k_extra "my srcP")
  k_with "CompEnd" =>
    k_dflt (k_extra "my end")
  k_with "k_ne" =>
    first | with_reducible assumption | exact Ne.symm (by with_reducible assumption) | exact Nat.ne_of_lt (by with_reducible assumption) | exact Nat.ne_of_gt (by with_reducible assumption) | exact neL0 (by with_reducible assumption) | exact neR0 (by with_reducible assumption) | exact neL1 (by with_reducible assumption) | exact neR1 (by with_reducible assumption) | exact neL2 (by with_reducible assumption) | exact neR2 (by with_reducible assumption) | exact neL3 (by with_reducible assumption) | exact neR3 (by with_reducible assumption) | exact neL4 (by with_reducible assumption) | exact neR4 (by with_reducible assumption) | exact neL5 (by with_reducible assumption) | exact neR5 (by with_reducible assumption) | exact neL6 (by with_reducible assumption) | exact neR6 (by with_reducible assumption) | exact neL7 (by with_reducible assumption) | exact neR7 (by with_reducible assumption) | exact neL8 (by with_reducible assumption) | exact neR8 (by with_reducible assumption) | exact neL9 (by with_reducible assumption) | exact neR9 (by with_reducible assumption) | exact neL10 (by with_reducible assumption) | exact neR10 (by with_reducible assumption) | exact neL11 (by with_reducible assumption) | exact neR11 (by with_reducible assumption) | exact neL12 (by with_reducible assumption) | exact neR12 (by with_reducible assumption) | exact neL13 (by with_reducible assumption) | exact neR13 (by with_reducible assumption) | exact neTL0 (by with_reducible assumption) (by with_reducible assumption) | exact neTR0 (by with_reducible assumption) (by with_reducible assumption) | exact neTL1 (by with_reducible assumption) (by with_reducible assumption) | exact neTR1 (by with_reducible assumption) (by with_reducible assumption) | exact neTL2 (by with_reducible assumption) (by with_reducible assumption) | exact neTR2 (by with_reducible assumption) (by with_reducible assumption) | exact neTL3 (by with_reducible assumption) (by with_reducible assumption) | exact neTR3 (by with_reducible assumption) (by with_reducible assumption) | exact neTL4 (by with_reducible assumption) (by with_reducible assumption) | exact neTR4 (by with_reducible assumption) (by with_reducible assumption) | exact neTL5 (by with_reducible assumption) (by with_reducible assumption) | exact neTR5 (by with_reducible assumption) (by with_reducible assumption) | exact neTL6 (by with_reducible assumption) (by with_reducible assumption) | exact neTR6 (by with_reducible assumption) (by with_reducible assumption) | exact neTL7 (by with_reducible assumption) (by with_reducible assumption) | exact neTR7 (by with_reducible assumption) (by with_reducible assumption) | exact neTL8 (by with_reducible assumption) (by with_reducible assumption) | exact neTR8 (by with_reducible assumption) (by with_reducible assumption) | exact neTL9 (by with_reducible assumption) (by with_reducible assumption) | exact neTR9 (by with_reducible assumption) (by with_reducible assumption) | exact neQ0 (by with_reducible assumption) | exact Ne.symm (neQ0 (by with_reducible assumption)) | exact neQ1 (by with_reducible assumption) | exact Ne.symm (neQ1 (by with_reducible assumption)) | exact neQ2 (by with_reducible assumption) | exact Ne.symm (neQ2 (by with_reducible assumption)) | exact neQ3 (by with_reducible assumption) | exact Ne.symm (neQ3 (by with_reducible assumption)) | exact neQ4 (by with_reducible assumption) | exact Ne.symm (neQ4 (by with_reducible assumption)) | exact neQ5 (by with_reducible assumption) | exact Ne.symm (neQ5 (by with_reducible assumption)) | exact neQ6 (by with_reducible assumption) | exact Ne.symm (neQ6 (by with_reducible assumption)) | exact neQ7 (by with_reducible assumption) | exact Ne.symm (neQ7 (by with_reducible assumption)) | exact neQ8 (by with_reducible assumption) | exact Ne.symm (neQ8 (by with_reducible assumption)) | exact neQ9 (by with_reducible assumption) | exact Ne.symm (neQ9 (by with_reducible assumption))
  refine wpAny_call ?_
  k_dflt cell_enter
  (try (refine nameL ?_; intro ak; refine nameE ?_; intro ev))
  repeat' (first | (k_unfold; (try dsimp only)) | walk1 | (dsimp only; walk1) | fail "no step")
  all_goals (rename Fr _ _ _ _ => kF)
  all_goals (rename News _ _ _ _ => kN)
  · obtain ⟨r, hr, hb⟩ := mod_nat (if ns.getD (turn : Int).toNat 0 < 0 then -ns.getD (turn : Int).toNat 0 else ns.getD (turn : Int).toNat 0) hb
    exact hret _ _ _ _ ⟨r, _, _, _, vint hr, hb, rfl⟩ kF kN
  · obtain ⟨r, hr, hb⟩ := mod_nat (3 * (turn : Int) + (turn : Int).fdiv 2 + 2) hb
    exact hret _ _ _ _ ⟨r, _, _, _, vint hr, hb, rfl⟩ kF kN
end
end
/-! part E7 -/
section
section
variable {prog : Program} {w : World} {p : Program} {loose : List Str} {mean : ExcName → Option Value} {mg mb : Str → Option Value}
theorem text_ok (sk cl : Addr) (turn at0 most : Nat) (tt ta tm : Tok) (ks kc : Nat) (cvs : List Value) (ns : List Int) (own : Ledger) (h1 : @Ne Nat sk cl) (ho : OwnOff own [sk, cl]) (hI : IntsAre cvs ns) (hn : ns.length ≤ 100) (ht : turn ≤ 1000) (ha : at0 ≤ 100) (hb : 1 ≤ most) (hb2 : most ≤ 8) :
  Ctr prog w p loose mean mg mb 142 2 [.ref sk, .int (at0 : Int) ta, .int (most : Int) tm]
    (SL sk cl turn tt ks cvs kc own)
    (fun v news' => ∃ (tx : List Nat) (t tt' : Tok) (ks' : Nat), v = .str (T tx) t ∧ 1 ≤ tx.length ∧ tx.length ≤ most ∧ (∀ c ∈ tx, c ≠ 32) ∧ news' = SL sk cl (turn + 1 : Nat) tt' ks' cvs kc own) := by
  refine Ctr.of ?_
  intro dp un gd cn cs a ccd cl outer A₀ base h₀ L m hp gn dr tk0 os0 Q E B F X N Tp hk hdp hun hret
  (try dsimp only [PL] at N hret)
  w_on
  k_with_none
  k_with "call builtin:list.append" =>
    (k_here; (show wpAny _ _ (call (Value.builtin "list.append") [Value.ref _, _]) _ _ _); k_dflt (refine' append_K ?y1k1 ?y1k2 ?y1k3 ?_ ?y1z; (case y1k1 => k_asm); (case y1k2 => k_asm); (case y1k3 => k_upd); (case y1z => first | size_fits | (simp only [List.size_toArray, sizeLine_eq]; (first | lia | omega))); k_whole); intro h' F' N'; (try k_sweep))
  k_with "call builtin:len" =>
    ((with_reducible show wpAny _ _ (call (Value.builtin "len") [Value.str _ _]) _ _ _); (refine' len_X ?y2kx ?y2kz ?_; (case y2kx => first | exact rfl | exact T_nil | exact T_blank); (case y2kz => first | (first | lia | omega) | ((try simp only [List.length_append, List.length_replicate, List.length_nil, List.length_cons, List.length_take, List.length_drop]); (first | lia | omega))); k_whole))
  k_with "binaryOp Add str str" =>
    ((with_reducible show wpAny _ _ (binaryOp Operator.Add (Value.str _ _) (Value.str _ _)) _ _ _); (refine' add_X ?y3kx ?y3ky ?y3kz ?_; (case y3kx => first | exact rfl | exact T_nil | exact T_blank); (case y3ky => first | exact rfl | exact T_nil | exact T_blank); (case y3kz => first | (first | lia | omega) | ((try simp only [List.length_append, List.length_replicate, List.length_nil, List.length_cons, List.length_take, List.length_drop]); (first | lia | omega))); k_whole); intro _ _)
  k_with "compareOp Eq str str" =>
    ((with_reducible show wpAny _ _ (compareOp CmpOp.Eq (Value.str (T _) _) (Value.str _ _)) _ _ _); (refine' eq_X ?y4kx ?y4ky ?_; (case y4kx => first | exact rfl | exact T_nil | exact T_blank); (case y4ky => first | exact rfl | exact T_nil | exact T_blank); k_whole))
  k_with "compareOp Eq str str" =>
    ((with_reducible show wpAny _ _ (compareOp CmpOp.Eq (Value.str _ _) (Value.str (T _) _)) _ _ _); (refine' eq_X ?y5kx ?y5ky ?_; (case y5kx => first | exact rfl | exact T_nil | exact T_blank); (case y5ky => first | exact rfl | exact T_nil | exact T_blank); k_whole))
  k_with "compareOp NotEq str str" =>
    ((with_reducible show wpAny _ _ (compareOp CmpOp.NotEq (Value.str (T _) _) (Value.str _ _)) _ _ _); (refine' ne_X ?y6kx ?y6ky ?_; (case y6kx => first | exact rfl | exact T_nil | exact T_blank); (case y6ky => first | exact rfl | exact T_nil | exact T_blank); k_whole))
  k_with "compareOp NotEq str str" =>
    ((with_reducible show wpAny _ _ (compareOp CmpOp.NotEq (Value.str _ _) (Value.str (T _) _)) _ _ _); (refine' ne_X ?y7kx ?y7ky ?_; (case y7kx => first | exact rfl | exact T_nil | exact T_blank); (case y7ky => first | exact rfl | exact T_nil | exact T_blank); k_whole))
  k_with "binaryOp Mult str int" =>
    ((with_reducible show wpAny _ _ (binaryOp Operator.Mult (Value.str _ _) (Value.int _ _)) _ _ _); (refine' mul_X ?y8kx ?y8k0 ?y8kn ?_; (case y8kx => first | exact rfl | exact T_blank); (case y8k0 => first | (first | lia | omega) | (simp only [List.length_nil]; (first | lia | omega))); (case y8kn => first | (first | lia | omega) | (simp only [List.length_nil]; (first | lia | omega))); k_whole); intro _ _)
  k_with "subscriptTail Name Slice str ref" =>
    ((with_reducible show wpAny _ _ (subscriptTail _ (PySem.Expr.Slice none (some _) none _) (Value.str (T _) _) _) _ _ _); (with_reducible rename Fr _ _ _ _ => F'); (with_reducible rename News _ _ _ _ => N'); (refine' take_T (s := ⟨_, _, _, _, _⟩) ?y9k0 ?y9k1 ?y9kz F' N' ?_ ?y9ks ?y9kt; (case y9k0 => (first | lia | omega)); (case y9k1 => (first | lia | omega)); (case y9kz => (first | lia | omega)); (case y9ks => with_unfolding_all rfl); (case y9kt => intro _; with_unfolding_all rfl); k_whole); intro h' _ _ F' N')
  k_with "subscriptTail Name Slice str ref" =>
    ((with_reducible show wpAny _ _ (subscriptTail _ (PySem.Expr.Slice (some _) none none _) (Value.str (T _) _) _) _ _ _); (with_reducible rename Fr _ _ _ _ => F'); (with_reducible rename News _ _ _ _ => N'); (refine' drop_T (s := ⟨_, _, _, _, _⟩) ?y10k0 ?y10k1 ?y10kz F' N' ?_ ?y10ks ?y10kt; (case y10k0 => (first | lia | omega)); (case y10k1 => (first | lia | omega)); (case y10kz => (first | lia | omega)); (case y10ks => with_unfolding_all rfl); (case y10kt => intro _; with_unfolding_all rfl); k_whole); intro h' _ _ F' N')
  k_with "call ref" =>
    k_dflt (k_extra "my call")
  k_with "exec While" =>
    k_dflt (k_extra "my while")
  k_with "exec For" =>
    k_dflt (k_extra "my for")
  k_with "pyIter ref" =>
    k_dflt (k_extra "my iter")
  k_with "subscriptTail Name Constant ref int" =>
    k_dflt (k_extra "my item")
  k_with "binaryOp Add ref ref" =>
    (k_here; (show wpAny _ _ (binaryOp Operator.Add (Value.ref _) (Value.ref _)) _ _ _); k_dflt (refine' add_L ?y16k1 ?y16k2 ?y16k3 ?y16k4 ?_ ?y16z; (case y16k1 => k_asm); (case y16k2 => k_asm); (case y16k3 => k_mem); (case y16k4 => k_mem); (case y16z => first | (first | lia | omega) | (simp only [List.length_cons, List.length_nil, List.length_append]; (first | lia | omega))); k_whole); intro c9 h9 F9 N9 l9; (have lA := allLt_of l9); (try k_lt l9); (try dsimp only [List.append_nil, List.nil_append, List.cons_append] at N9); (try k_sweep))
  k_with "subscriptTail Constant" =>
    ((with_reducible show wpAny _ _ (subscriptTail _ (PySem.Expr.Slice (some _) (some _) none _) (Value.str (Str.ofString "abcdefghijklmnopqrst") _) _) _ _ _); (with_reducible rename Fr _ _ _ _ => F'); (with_reducible rename News _ _ _ _ => N'); (refine' cut_X (s := ⟨_, _, _, _, _⟩) alpha_T ?y17k0 ?y17k1 ?y17k2 ?y17kz F' N' ?_ ?y17ks ?y17kt; (case y17k0 => (first | lia | omega)); (case y17k1 => (first | lia | omega)); (case y17k2 => rw [List.length_range']; (first | lia | omega)); (case y17kz => rw [List.length_range']; decide); (case y17ks => with_unfolding_all rfl); (case y17kt => intro _; with_unfolding_all rfl); k_whole); intro h' _ _ F' N')
  k_with "subscriptTail Attribute" =>
    k_dflt (k_extra "my item2")
  k_with "call builtin:len" =>
    (k_here; (with_reducible show wpAny _ _ (call (Value.builtin "len") [Value.ref _]) _ _ _); k_dflt (refine' len_L ?y19k1 ?y19k2 ?y19z ?_; (case y19k1 => k_asm); (case y19k2 => first | k_mem | ((repeat' (first | assumption | refine List.mem_cons_of_mem _ ?_)); done)); (case y19z => first | (first | lia | omega) | ((try simp only [List.length_append, List.length_nil, List.length_cons]); (first | lia | omega))); k_whole))
  k_with "subscriptTail Attribute BinOp ref int" =>
    k_dflt (k_extra "my item2")
  k_with "eval ListComp" =>
    k_dflt (k_extra "my comp")
  k_with "CompSrc" =>
    k_dflt (k_extra "my src")
  k_with "CompSrcT" =>
    k_dflt (k_extra "my srcT")
  k_with "SrcLP" =>
    k_dflt (k_extra "my srcP")
  k_with "CompEnd" =>
    k_dflt (k_extra "my end")
  k_with "k_ne" =>
    first | with_reducible assumption | exact Ne.symm (by with_reducible assumption) | exact Nat.ne_of_lt (by with_reducible assumption) | exact Nat.ne_of_gt (by with_reducible assumption) | exact neL0 (by with_reducible assumption) | exact neR0 (by with_reducible assumption) | exact neL1 (by with_reducible assumption) | exact neR1 (by with_reducible assumption) | exact neL2 (by with_reducible assumption) | exact neR2 (by with_reducible assumption) | exact neL3 (by with_reducible assumption) | exact neR3 (by with_reducible assumption) | exact neL4 (by with_reducible assumption) | exact neR4 (by with_reducible assumption) | exact neL5 (by with_reducible assumption) | exact neR5 (by with_reducible assumption) | exact neL6 (by with_reducible assumption) | exact neR6 (by with_reducible assumption) | exact neL7 (by with_reducible assumption) | exact neR7 (by with_reducible assumption) | exact neL8 (by with_reducible assumption) | exact neR8 (by with_reducible assumption) | exact neL9 (by with_reducible assumption) | exact neR9 (by with_reducible assumption) | exact neL10 (by with_reducible assumption) | exact neR10 (by with_reducible assumption) | exact neL11 (by with_reducible assumption) | exact neR11 (by with_reducible assumption) | exact neL12 (by with_reducible assumption) | exact neR12 (by with_reducible assumption) | exact neL13 (by with_reducible assumption) | exact neR13 (by with_reducible assumption) | exact neTL0 (by with_reducible assumption) (by with_reducible assumption) | exact neTR0 (by with_reducible assumption) (by with_reducible assumption) | exact neTL1 (by with_reducible assumption) (by with_reducible assumption) | exact neTR1 (by with_reducible assumption) (by with_reducible assumption) | exact neTL2 (by with_reducible assumption) (by with_reducible assumption) | exact neTR2 (by with_reducible assumption) (by with_reducible assumption) | exact neTL3 (by with_reducible assumption) (by with_reducible assumption) | exact neTR3 (by with_reducible assumption) (by with_reducible assumption) | exact neTL4 (by with_reducible assumption) (by with_reducible assumption) | exact neTR4 (by with_reducible assumption) (by with_reducible assumption) | exact neTL5 (by with_reducible assumption) (by with_reducible assumption) | exact neTR5 (by with_reducible assumption) (by with_reducible assumption) | exact neTL6 (by with_reducible assumption) (by with_reducible assumption) | exact neTR6 (by with_reducible assumption) (by with_reducible assumption) | exact neTL7 (by with_reducible assumption) (by with_reducible assumption) | exact neTR7 (by with_reducible assumption) (by with_reducible assumption) | exact neTL8 (by with_reducible assumption) (by with_reducible assumption) | exact neTR8 (by with_reducible assumption) (by with_reducible assumption) | exact neTL9 (by with_reducible assumption) (by with_reducible assumption) | exact neTR9 (by with_reducible assumption) (by with_reducible assumption) | exact neQ0 (by with_reducible assumption) | exact Ne.symm (neQ0 (by with_reducible assumption)) | exact neQ1 (by with_reducible assumption) | exact Ne.symm (neQ1 (by with_reducible assumption)) | exact neQ2 (by with_reducible assumption) | exact Ne.symm (neQ2 (by with_reducible assumption)) | exact neQ3 (by with_reducible assumption) | exact Ne.symm (neQ3 (by with_reducible assumption)) | exact neQ4 (by with_reducible assumption) | exact Ne.symm (neQ4 (by with_reducible assumption)) | exact neQ5 (by with_reducible assumption) | exact Ne.symm (neQ5 (by with_reducible assumption)) | exact neQ6 (by with_reducible assumption) | exact Ne.symm (neQ6 (by with_reducible assumption)) | exact neQ7 (by with_reducible assumption) | exact Ne.symm (neQ7 (by with_reducible assumption)) | exact neQ8 (by with_reducible assumption) | exact Ne.symm (neQ8 (by with_reducible assumption)) | exact neQ9 (by with_reducible assumption) | exact Ne.symm (neQ9 (by with_reducible assumption))
  k_with "my call" =>
    (show wpAny _ _ (call (Value.ref 135) [_, _]) _ _ _)
    (with_reducible rename News _ _ _ _ => kN)
    (with_unfolding_all refine Ctr.useT (take_ok _ _ _ _ _ _ _ _ _ _ _ (by assumption) (by assumption) (by assumption) (by first | with_reducible assumption | exact Nat.le_trans (by with_reducible assumption) (by decide) | (first | lia | omega) | (simp only [List.length_append, List.length_cons, List.length_nil, List.length_replicate]; (first | lia | omega))) (by first | with_reducible assumption | exact Nat.le_trans (by with_reducible assumption) (by decide) | (first | lia | omega) | (simp only [List.length_append, List.length_cons, List.length_nil, List.length_replicate]; (first | lia | omega))) (by first | with_reducible assumption | exact Nat.le_trans (by with_reducible assumption) (by decide) | (first | lia | omega) | (simp only [List.length_append, List.length_cons, List.length_nil, List.length_replicate]; (first | lia | omega))) (by first | with_reducible assumption | exact Nat.le_trans (by with_reducible assumption) (by decide) | (first | lia | omega) | (simp only [List.length_append, List.length_cons, List.length_nil, List.length_replicate]; (first | lia | omega)))) (by k_asm) (by k_asm) (by k_asm) kN (by k_asm) (by first | exact rfl | assumption) (by (first | exact roomL (by with_reducible assumption) (by rfl) | exact roomL (by assumption) (by rfl) | ktr_room | ((dsimp only [ak]); ktr_room))) (by (first | exact roomU (by with_reducible assumption) (by rfl) | exact roomU (by assumption) (by rfl) | ktr_units | ((dsimp only [ak]); ktr_units))) ?_)
    clear kN
    intro r9 tx9 tt9 ks9 h9 tk9 hr9 F9 N9
    (try dsimp only [SL] at N9)
    (try dsimp only)
    (try k_sweep)
  refine wpAny_call ?_
  k_dflt cell_enter
  (try (refine nameL ?_; intro ak; refine nameE ?_; intro ev))
  repeat' (first | (k_unfold; (try dsimp only)) | walk1 | (dsimp only; walk1) | fail "no step")
  all_goals (rename Fr _ _ _ _ => kF)
  all_goals (rename News _ _ _ _ => kN)
  have g0 := Int.fmod_nonneg_of_pos (3 * (at0 : Int)) (show (0 : Int) < 10 by decide)
  have g1 := Int.fmod_lt_of_pos (3 * (at0 : Int)) (show (0 : Int) < 10 by decide)
  generalize (3 * (at0 : Int)).fmod 10 = b at g0 g1
  try rw [alpha_T, T_cut _ g0 (show b ≤ b + 1 + (r9 : Int) by (first | lia | omega)) (by rw [List.length_range']; (first | lia | omega))]
  have hl : (((List.range' 97 20).drop b.toNat).take (b + 1 + (r9 : Int) - b).toNat).length = r9 + 1 := by
    rw [List.length_take, List.length_drop, List.length_range']; (first | lia | omega)
  refine hret _ _ _ _ ⟨_, _, _, _, rfl, ?_, ?_, ?_, rfl⟩ kF kN
  · rw [hl]; (first | lia | omega)
  · rw [hl]; (first | lia | omega)
  · intro c hc
    have h2 := List.mem_of_mem_drop (List.mem_of_mem_take hc)
    rw [List.mem_range'_1] at h2
    (first | lia | omega)
end
end
/-! part E8 -/
section
theorem item_last (l : List (List Nat)) (x : List Nat) (k : Int) (h : k = (l.length : Int)) : (l ++ [x]).getD k.toNat [] = x := by
  subst h
  simp
section
variable {prog : Program} {w : World} {p : Program} {loose : List Str} {mean : ExcName → Option Value} {mg mb : Str → Option Value}
theorem written_ok (pg dx o : Addr) (t1 t2 tr : Tok) (row : List Nat) (rows : List (List Nat)) (vs : List Value) (k : Nat) (own : Ledger) (h1 : @Ne Nat pg dx) (h2 : @Ne Nat pg o) (h3 : @Ne Nat dx o) (ho : OwnOff own [pg, dx, o]) (hv : RowsAre vs rows) (hsz : rows.length ≤ 10000) (hr : row.length ≤ 10000) (text : List Nat) (ends : Bool) (width : Nat) (te tw : Tok) (hx : text.length ≤ 300) (hw : width ≤ 1000) (hsz2 : rows.length ≤ 8000) (hr2 : row.length ≤ 8000) :
  Ctr prog w p loose mean mg mb 149 7 [.ref pg, .str (T text) te, .bool ends, .int (width : Int) tw]
    (PL w.params pg dx o t1 t2 row tr vs k own)
    (fun v news' => v = .bool true ∧ ∃ (tr' : Tok) (vs' : List Value) (k' : Nat), news' = PL w.params pg dx o t1 t2 (written width (rows, row) text ends).2 tr' vs' k' own ∧ RowsAre vs' (written width (rows, row) text ends).1) := by
  have hlen := hv.len
  have hg1 := writeText_rows width (rows, row) text
  have hg2 := writeText_row width (rows, row) text
  have hfit := fit_len width (rows, row) text
  simp only at hg1 hg2
  refine Ctr.of ?_
  intro dp un gd cn cs a ccd cl outer A₀ base h₀ L m hp gn dr tk0 os0 Q E B F X N Tp hk hdp hun hret
  (try dsimp only [PL] at N hret)
  w_on
  k_with_none
  k_with "call builtin:list.append" =>
    (k_here; (show wpAny _ _ (call (Value.builtin "list.append") [Value.ref _, _]) _ _ _); k_dflt (refine' append_K ?y1k1 ?y1k2 ?y1k3 ?_ ?y1z; (case y1k1 => k_asm); (case y1k2 => k_asm); (case y1k3 => k_upd); (case y1z => first | size_fits | (simp only [List.size_toArray, sizeLine_eq]; (first | lia | omega))); k_whole); intro h' F' N'; (try k_sweep))
  k_with "call builtin:len" =>
    ((with_reducible show wpAny _ _ (call (Value.builtin "len") [Value.str _ _]) _ _ _); (refine' len_X ?y2kx ?y2kz ?_; (case y2kx => first | exact rfl | exact T_nil | exact T_blank); (case y2kz => first | (first | lia | omega) | ((try simp only [List.length_append, List.length_replicate, List.length_nil, List.length_cons, List.length_take, List.length_drop]); (first | lia | omega))); k_whole))
  k_with "binaryOp Add str str" =>
    ((with_reducible show wpAny _ _ (binaryOp Operator.Add (Value.str _ _) (Value.str _ _)) _ _ _); (refine' add_X ?y3kx ?y3ky ?y3kz ?_; (case y3kx => first | exact rfl | exact T_nil | exact T_blank); (case y3ky => first | exact rfl | exact T_nil | exact T_blank); (case y3kz => first | (first | lia | omega) | ((try simp only [List.length_append, List.length_replicate, List.length_nil, List.length_cons, List.length_take, List.length_drop]); (first | lia | omega))); k_whole); intro _ _)
  k_with "compareOp Eq str str" =>
    ((with_reducible show wpAny _ _ (compareOp CmpOp.Eq (Value.str (T _) _) (Value.str _ _)) _ _ _); (refine' eq_X ?y4kx ?y4ky ?_; (case y4kx => first | exact rfl | exact T_nil | exact T_blank); (case y4ky => first | exact rfl | exact T_nil | exact T_blank); k_whole))
  k_with "compareOp Eq str str" =>
    ((with_reducible show wpAny _ _ (compareOp CmpOp.Eq (Value.str _ _) (Value.str (T _) _)) _ _ _); (refine' eq_X ?y5kx ?y5ky ?_; (case y5kx => first | exact rfl | exact T_nil | exact T_blank); (case y5ky => first | exact rfl | exact T_nil | exact T_blank); k_whole))
  k_with "compareOp NotEq str str" =>
    ((with_reducible show wpAny _ _ (compareOp CmpOp.NotEq (Value.str (T _) _) (Value.str _ _)) _ _ _); (refine' ne_X ?y6kx ?y6ky ?_; (case y6kx => first | exact rfl | exact T_nil | exact T_blank); (case y6ky => first | exact rfl | exact T_nil | exact T_blank); k_whole))
  k_with "compareOp NotEq str str" =>
    ((with_reducible show wpAny _ _ (compareOp CmpOp.NotEq (Value.str _ _) (Value.str (T _) _)) _ _ _); (refine' ne_X ?y7kx ?y7ky ?_; (case y7kx => first | exact rfl | exact T_nil | exact T_blank); (case y7ky => first | exact rfl | exact T_nil | exact T_blank); k_whole))
  k_with "binaryOp Mult str int" =>
    ((with_reducible show wpAny _ _ (binaryOp Operator.Mult (Value.str _ _) (Value.int _ _)) _ _ _); (refine' mul_X ?y8kx ?y8k0 ?y8kn ?_; (case y8kx => first | exact rfl | exact T_blank); (case y8k0 => first | (first | lia | omega) | (simp only [List.length_nil]; (first | lia | omega))); (case y8kn => first | (first | lia | omega) | (simp only [List.length_nil]; (first | lia | omega))); k_whole); intro _ _)
  k_with "subscriptTail Name Slice str ref" =>
    ((with_reducible show wpAny _ _ (subscriptTail _ (PySem.Expr.Slice none (some _) none _) (Value.str (T _) _) _) _ _ _); (with_reducible rename Fr _ _ _ _ => F'); (with_reducible rename News _ _ _ _ => N'); (refine' take_T (s := ⟨_, _, _, _, _⟩) ?y9k0 ?y9k1 ?y9kz F' N' ?_ ?y9ks ?y9kt; (case y9k0 => (first | lia | omega)); (case y9k1 => (first | lia | omega)); (case y9kz => (first | lia | omega)); (case y9ks => with_unfolding_all rfl); (case y9kt => intro _; with_unfolding_all rfl); k_whole); intro h' _ _ F' N')
  k_with "subscriptTail Name Slice str ref" =>
    ((with_reducible show wpAny _ _ (subscriptTail _ (PySem.Expr.Slice (some _) none none _) (Value.str (T _) _) _) _ _ _); (with_reducible rename Fr _ _ _ _ => F'); (with_reducible rename News _ _ _ _ => N'); (refine' drop_T (s := ⟨_, _, _, _, _⟩) ?y10k0 ?y10k1 ?y10kz F' N' ?_ ?y10ks ?y10kt; (case y10k0 => (first | lia | omega)); (case y10k1 => (first | lia | omega)); (case y10kz => (first | lia | omega)); (case y10ks => with_unfolding_all rfl); (case y10kt => intro _; with_unfolding_all rfl); k_whole); intro h' _ _ F' N')
  k_with "call ref" =>
    k_dflt (k_extra "my call")
  k_with "exec While" =>
    k_dflt (k_extra "my while")
  k_with "exec For" =>
    k_dflt (k_extra "my for")
  k_with "pyIter ref" =>
    k_dflt (k_extra "my iter")
  k_with "subscriptTail Name Constant ref int" =>
    k_dflt (k_extra "my item")
  k_with "binaryOp Add ref ref" =>
    (k_here; (show wpAny _ _ (binaryOp Operator.Add (Value.ref _) (Value.ref _)) _ _ _); k_dflt (refine' add_L ?y16k1 ?y16k2 ?y16k3 ?y16k4 ?_ ?y16z; (case y16k1 => k_asm); (case y16k2 => k_asm); (case y16k3 => k_mem); (case y16k4 => k_mem); (case y16z => first | (first | lia | omega) | (simp only [List.length_cons, List.length_nil, List.length_append]; (first | lia | omega))); k_whole); intro c9 h9 F9 N9 l9; (have lA := allLt_of l9); (try k_lt l9); (try dsimp only [List.append_nil, List.nil_append, List.cons_append] at N9); (try k_sweep))
  k_with "subscriptTail Constant" =>
    ((with_reducible show wpAny _ _ (subscriptTail _ (PySem.Expr.Slice (some _) (some _) none _) (Value.str (Str.ofString "abcdefghijklmnopqrst") _) _) _ _ _); (with_reducible rename Fr _ _ _ _ => F'); (with_reducible rename News _ _ _ _ => N'); (refine' cut_X (s := ⟨_, _, _, _, _⟩) alpha_T ?y17k0 ?y17k1 ?y17k2 ?y17kz F' N' ?_ ?y17ks ?y17kt; (case y17k0 => (first | lia | omega)); (case y17k1 => (first | lia | omega)); (case y17k2 => rw [List.length_range']; (first | lia | omega)); (case y17kz => rw [List.length_range']; decide); (case y17ks => with_unfolding_all rfl); (case y17kt => intro _; with_unfolding_all rfl); k_whole); intro h' _ _ F' N')
  k_with "subscriptTail Attribute" =>
    k_dflt (k_extra "my item2")
  k_with "call builtin:len" =>
    (k_here; (with_reducible show wpAny _ _ (call (Value.builtin "len") [Value.ref _]) _ _ _); k_dflt (refine' len_L ?y19k1 ?y19k2 ?y19z ?_; (case y19k1 => k_asm); (case y19k2 => first | k_mem | ((repeat' (first | assumption | refine List.mem_cons_of_mem _ ?_)); done)); (case y19z => first | (first | lia | omega) | ((try simp only [List.length_append, List.length_nil, List.length_cons]); (first | lia | omega))); k_whole))
  k_with "subscriptTail Attribute BinOp ref int" =>
    k_dflt (k_extra "my item2")
  k_with "eval ListComp" =>
    k_dflt (k_extra "my comp")
  k_with "CompSrc" =>
    k_dflt (k_extra "my src")
  k_with "CompSrcT" =>
    k_dflt (k_extra "my srcT")
  k_with "SrcLP" =>
    k_dflt (k_extra "my srcP")
  k_with "CompEnd" =>
    k_dflt (k_extra "my end")
  k_with "k_ne" =>
    first | with_reducible assumption | exact Ne.symm (by with_reducible assumption) | exact Nat.ne_of_lt (by with_reducible assumption) | exact Nat.ne_of_gt (by with_reducible assumption) | exact neL0 (by with_reducible assumption) | exact neR0 (by with_reducible assumption) | exact neL1 (by with_reducible assumption) | exact neR1 (by with_reducible assumption) | exact neL2 (by with_reducible assumption) | exact neR2 (by with_reducible assumption) | exact neL3 (by with_reducible assumption) | exact neR3 (by with_reducible assumption) | exact neL4 (by with_reducible assumption) | exact neR4 (by with_reducible assumption) | exact neL5 (by with_reducible assumption) | exact neR5 (by with_reducible assumption) | exact neL6 (by with_reducible assumption) | exact neR6 (by with_reducible assumption) | exact neL7 (by with_reducible assumption) | exact neR7 (by with_reducible assumption) | exact neL8 (by with_reducible assumption) | exact neR8 (by with_reducible assumption) | exact neL9 (by with_reducible assumption) | exact neR9 (by with_reducible assumption) | exact neL10 (by with_reducible assumption) | exact neR10 (by with_reducible assumption) | exact neL11 (by with_reducible assumption) | exact neR11 (by with_reducible assumption) | exact neL12 (by with_reducible assumption) | exact neR12 (by with_reducible assumption) | exact neL13 (by with_reducible assumption) | exact neR13 (by with_reducible assumption) | exact neTL0 (by with_reducible assumption) (by with_reducible assumption) | exact neTR0 (by with_reducible assumption) (by with_reducible assumption) | exact neTL1 (by with_reducible assumption) (by with_reducible assumption) | exact neTR1 (by with_reducible assumption) (by with_reducible assumption) | exact neTL2 (by with_reducible assumption) (by with_reducible assumption) | exact neTR2 (by with_reducible assumption) (by with_reducible assumption) | exact neTL3 (by with_reducible assumption) (by with_reducible assumption) | exact neTR3 (by with_reducible assumption) (by with_reducible assumption) | exact neTL4 (by with_reducible assumption) (by with_reducible assumption) | exact neTR4 (by with_reducible assumption) (by with_reducible assumption) | exact neTL5 (by with_reducible assumption) (by with_reducible assumption) | exact neTR5 (by with_reducible assumption) (by with_reducible assumption) | exact neTL6 (by with_reducible assumption) (by with_reducible assumption) | exact neTR6 (by with_reducible assumption) (by with_reducible assumption) | exact neTL7 (by with_reducible assumption) (by with_reducible assumption) | exact neTR7 (by with_reducible assumption) (by with_reducible assumption) | exact neTL8 (by with_reducible assumption) (by with_reducible assumption) | exact neTR8 (by with_reducible assumption) (by with_reducible assumption) | exact neTL9 (by with_reducible assumption) (by with_reducible assumption) | exact neTR9 (by with_reducible assumption) (by with_reducible assumption) | exact neQ0 (by with_reducible assumption) | exact Ne.symm (neQ0 (by with_reducible assumption)) | exact neQ1 (by with_reducible assumption) | exact Ne.symm (neQ1 (by with_reducible assumption)) | exact neQ2 (by with_reducible assumption) | exact Ne.symm (neQ2 (by with_reducible assumption)) | exact neQ3 (by with_reducible assumption) | exact Ne.symm (neQ3 (by with_reducible assumption)) | exact neQ4 (by with_reducible assumption) | exact Ne.symm (neQ4 (by with_reducible assumption)) | exact neQ5 (by with_reducible assumption) | exact Ne.symm (neQ5 (by with_reducible assumption)) | exact neQ6 (by with_reducible assumption) | exact Ne.symm (neQ6 (by with_reducible assumption)) | exact neQ7 (by with_reducible assumption) | exact Ne.symm (neQ7 (by with_reducible assumption)) | exact neQ8 (by with_reducible assumption) | exact Ne.symm (neQ8 (by with_reducible assumption)) | exact neQ9 (by with_reducible assumption) | exact Ne.symm (neQ9 (by with_reducible assumption))
  k_with "my call" =>
    (show wpAny _ _ (call (Value.ref 114) [_, _, _, _]) _ _ _)
    (with_reducible rename News _ _ _ _ => kN)
    (first
      | (with_unfolding_all refine Ctr.useP (write_parts_ok _ _ _ _ _ _ _ _ _ _ _ (by assumption) (by assumption) (by assumption) (by repeat' (first | assumption | (refine off_cons3 (by k_ne) (by k_ne) (by k_ne) ?_))) (by assumption) _ _ _ [Part.text text] 14 _ _ _ (by k_mem) (PartsIn.cons (by k_mem) (PartIs.text _ _ _ (by (first | lia | omega))) PartsIn.nil) (by decide) (by decide) (by (first | lia | omega)) (by simp only [List.length_cons, List.length_nil]; (first | lia | omega)) (by simp only [List.length_cons, List.length_nil]; (first | lia | omega))) (by k_asm) (by k_asm) (by k_asm) (rot [_, _, _, _] kN) (by k_asm) (by first | exact rfl | assumption) (by (first | exact roomL (by with_reducible assumption) (by rfl) | exact roomL (by assumption) (by rfl) | ktr_room | ((dsimp only [ak]); ktr_room))) (by (first | exact roomU (by with_reducible assumption) (by rfl) | exact roomU (by assumption) (by rfl) | ktr_units | ((dsimp only [ak]); ktr_units))) ?_)
      | (with_unfolding_all refine Ctr.useP (write_parts_ok _ _ _ _ _ _ _ _ _ _ _ (by assumption) (by assumption) (by assumption) (by repeat' (first | assumption | (refine off_cons3 (by k_ne) (by k_ne) (by k_ne) ?_))) (by assumption) _ _ _ [Part.text text, Part.glue] 14 _ _ _ (by k_mem) (PartsIn.cons (by k_mem) (PartIs.text _ _ _ (by (first | lia | omega))) (PartsIn.cons (by k_mem) (PartIs.glue _) PartsIn.nil)) (by decide) (by decide) (by (first | lia | omega)) (by simp only [List.length_cons, List.length_nil]; (first | lia | omega)) (by simp only [List.length_cons, List.length_nil]; (first | lia | omega))) (by k_asm) (by k_asm) (by k_asm) (rot [_, _, _, _, _] kN) (by k_asm) (by first | exact rfl | assumption) (by (first | exact roomL (by with_reducible assumption) (by rfl) | exact roomL (by assumption) (by rfl) | ktr_room | ((dsimp only [ak]); ktr_room))) (by (first | exact roomU (by with_reducible assumption) (by rfl) | exact roomU (by assumption) (by rfl) | ktr_units | ((dsimp only [ak]); ktr_units))) ?_))
    clear kN
    intro tr9 vs9 k9 h9 tk9 hv9 F9 N9
    (try dsimp only [PL, List.cons_append, List.nil_append] at N9)
    (try dsimp only)
    (simp only [wp_text, wp_glue] at hv9 N9)
    (have hlen9 := hv9.len)
    (try simp only [List.length_append, List.length_cons, List.length_nil] at hlen9)
    (try k_sweep)
  k_with "my call" =>
    (show wpAny _ _ (call (Value.ref 121) [_]) _ _ _)
    (with_reducible rename News _ _ _ _ => kN)
    (first
      | (with_unfolding_all refine Ctr.useI (column_of_ok _ _ _ _ _ _ _ _ _ _ _ (by assumption) (by assumption) (by assumption) (by repeat' (first | assumption | (refine off_cons3 (by k_ne) (by k_ne) (by k_ne) ?_))) (by assumption) (by first | with_reducible assumption | exact Nat.le_trans (by with_reducible assumption) (by decide) | (first | lia | omega) | (simp only [List.length_append, List.length_cons, List.length_nil, List.length_replicate]; (first | lia | omega))) (by first | with_reducible assumption | exact Nat.le_trans (by with_reducible assumption) (by decide) | (first | lia | omega) | (simp only [List.length_append, List.length_cons, List.length_nil, List.length_replicate]; (first | lia | omega)))) (by k_asm) (by k_asm) (by k_asm) (rot [] kN) (by k_asm) (by first | exact rfl | assumption) (by (first | exact roomL (by with_reducible assumption) (by rfl) | exact roomL (by assumption) (by rfl) | ktr_room | ((dsimp only [ak]); ktr_room))) (by (first | exact roomU (by with_reducible assumption) (by rfl) | exact roomU (by assumption) (by rfl) | ktr_units | ((dsimp only [ak]); ktr_units))) ?_)
      | (with_unfolding_all refine Ctr.useI (column_of_ok _ _ _ _ _ _ _ _ _ _ _ (by assumption) (by assumption) (by assumption) (by repeat' (first | assumption | (refine off_cons3 (by k_ne) (by k_ne) (by k_ne) ?_))) (by assumption) (by first | with_reducible assumption | exact Nat.le_trans (by with_reducible assumption) (by decide) | (first | lia | omega) | (simp only [List.length_append, List.length_cons, List.length_nil, List.length_replicate]; (first | lia | omega))) (by first | with_reducible assumption | exact Nat.le_trans (by with_reducible assumption) (by decide) | (first | lia | omega) | (simp only [List.length_append, List.length_cons, List.length_nil, List.length_replicate]; (first | lia | omega)))) (by k_asm) (by k_asm) (by k_asm) (rot [_, _, _, _] kN) (by k_asm) (by first | exact rfl | assumption) (by (first | exact roomL (by with_reducible assumption) (by rfl) | exact roomL (by assumption) (by rfl) | ktr_room | ((dsimp only [ak]); ktr_room))) (by (first | exact roomU (by with_reducible assumption) (by rfl) | exact roomU (by assumption) (by rfl) | ktr_units | ((dsimp only [ak]); ktr_units))) ?_)
      | (with_unfolding_all refine Ctr.useI (column_of_ok _ _ _ _ _ _ _ _ _ _ _ (by assumption) (by assumption) (by assumption) (by repeat' (first | assumption | (refine off_cons3 (by k_ne) (by k_ne) (by k_ne) ?_))) (by assumption) (by first | with_reducible assumption | exact Nat.le_trans (by with_reducible assumption) (by decide) | (first | lia | omega) | (simp only [List.length_append, List.length_cons, List.length_nil, List.length_replicate]; (first | lia | omega))) (by first | with_reducible assumption | exact Nat.le_trans (by with_reducible assumption) (by decide) | (first | lia | omega) | (simp only [List.length_append, List.length_cons, List.length_nil, List.length_replicate]; (first | lia | omega)))) (by k_asm) (by k_asm) (by k_asm) (rot [_, _, _, _, _] kN) (by k_asm) (by first | exact rfl | assumption) (by (first | exact roomL (by with_reducible assumption) (by rfl) | exact roomL (by assumption) (by rfl) | ktr_room | ((dsimp only [ak]); ktr_room))) (by (first | exact roomU (by with_reducible assumption) (by rfl) | exact roomU (by assumption) (by rfl) | ktr_units | ((dsimp only [ak]); ktr_units))) ?_))
    clear kN
    intro t9 h9 tk9 F9 N9
    (try dsimp only [PL, List.cons_append, List.nil_append] at N9)
    (try dsimp only)
    (try k_sweep)
  k_with "my item2" =>
    (with_reducible rename News _ _ _ _ => kN)
    (with_unfolding_all refine item_T kN (by k_mem) hv9 (by first | (first | lia | omega) | (simp only [List.length_append, List.length_cons, List.length_nil]; (first | lia | omega))) (by first | (first | lia | omega) | (simp only [List.length_append, List.length_cons, List.length_nil]; (first | lia | omega))) (by first | (first | lia | omega) | (simp only [List.length_append, List.length_cons, List.length_nil]; (first | lia | omega))) ?_)
    intro tq9
    (rw [item_last _ _ _ (by (first | lia | omega))])
    (try dsimp only)
  refine wpAny_call ?_
  k_dflt cell_enter
  (try (refine nameL ?_; intro ak; refine nameE ?_; intro ev))
  repeat' (first | (k_unfold; (try dsimp only)) | walk1 | (dsimp only; walk1) | fail "no step")
  all_goals (rename Fr _ _ _ _ => kF)
  all_goals (rename News _ _ _ _ => kN)
  all_goals first
    | (exfalso; (first | lia | omega))
    | (rw [decide_eq_true (by assumption)] at *; skip)
    | (rw [tail_eq (by (first | lia | omega))])
    | skip
  all_goals first
    | ((have he : ends = true := by assumption); rw [he, written_true] at hret; exact hret _ _ _ _ ⟨rfl, _, _, _, rfl, hv9⟩ kF (news_of kN (PL_sub (fun p hp => .tail _ (.tail _ (.tail _ (.tail _ hp)))))))
    | ((have he : ends = false := by assumption); rw [he, written_false] at hret; exact hret _ _ _ _ ⟨rfl, _, _, _, rfl, hv9⟩ kF (news_of kN (PL_sub (fun p hp => .tail _ (.tail _ (.tail _ (.tail _ (.tail _ hp))))))))
    | skip
end
end
/-! part E9 -/
section
inductive TextsIn (own : Ledger) : List Value → List (List Nat × Bool) → Prop
  | nil : TextsIn own [] []
  | cons {q : Addr} {x : List Nat} {t : Tok} {e : Bool} {vs : List Value} {ts : List (List Nat × Bool)} : (q, tupO [.str (T x) t, .bool e]) ∈ own → TextsIn own vs ts → TextsIn own (.ref q :: vs) ((x, e) :: ts)
theorem TextsIn.len {own : Ledger} {vs : List Value} {ps : List (List Nat × Bool)} (h : TextsIn own vs ps) : vs.length = ps.length := by
  induction h with
  | nil => rfl
  | cons _ _ ih => simp [ih]
theorem TextsIn.get {own : Ledger} {vs : List Value} {ps : List (List Nat × Bool)} (h : TextsIn own vs ps) : ∀ {i : Nat} {v : Value}, vs[i]? = some v → ∃ q x t e, v = .ref q ∧ (q, tupO [.str (T x) t, .bool e]) ∈ own ∧ ps[i]? = some (x, e) := by
  induction h with
  | nil => intro i v e; simp at e
  | cons hq _ ih =>
    intro i v e
    cases i with
    | zero => simp at e; exact ⟨_, _, _, _, e.symm, hq, rfl⟩
    | succ i => simpa using ih (by simpa using e)
theorem RowsAre.get {vs : List Value} {rows : List (List Nat)} (h : RowsAre vs rows) {i : Nat} {v : Value} (hv : vs[i]? = some v) : ∃ r t, v = .str (T r) t ∧ rows[i]? = some r := by
  obtain ⟨y, t, e, hy⟩ := StrsAre.item h i v hv
  rw [List.getElem?_map, Option.map_eq_some_iff] at hy
  obtain ⟨r, hr, rfl⟩ := hy
  exact ⟨r, t, e, hr⟩
theorem TextsIn.get_l {own : Ledger} {vs : List Value} {ps : List (List Nat × Bool)} (h : TextsIn own vs ps) {i : Nat} {G : Value → Prop} (H : ∀ q x t e, (q, tupO [.str (T x) t, .bool e]) ∈ own → ps[i]? = some (x, e) → G (.ref q)) : ∀ v, vs[i]? = some v → G v := by
  intro v hv
  obtain ⟨q, x, t, e, rfl, hq, hx⟩ := h.get hv
  exact H q x t e hq hx
theorem TextsIn.get_k {own : Ledger} {vs : List Value} {ps : List (List Nat × Bool)} (h : TextsIn own vs ps) {i : Nat} {G : Value → Prop} (H : ∀ q x t e, (q, tupO [.str (T x) t, .bool e]) ∈ own → ps[i]? = some (x, e) → G (.ref q)) : ∀ v, vs.toArray[i]? = some v → G v :=
  fun v hv => h.get_l H v (by simpa using hv)
theorem RowsAre.get_k {vs : List Value} {rows : List (List Nat)} (h : RowsAre vs rows) {i : Nat} {G : Value → Prop} (H : ∀ r t, rows[i]? = some r → G (.str (T r) t)) : ∀ v, vs.toArray[i]? = some v → G v := by
  intro v hv
  obtain ⟨r, t, rfl, hr⟩ := h.get (show vs[i]? = some v by simpa using hv)
  exact H r t hr
theorem rows_short {rows : List (List Nat)} {n : Nat} (h : rows.flatten.length ≤ n) : ∀ r ∈ rows, r.length ≤ n := by
  induction rows with
  | nil => intro r hr; nomatch hr
  | cons a rows ih =>
    simp only [List.flatten_cons, List.length_append] at h
    intro r hr
    rcases List.mem_cons.mp hr with rfl | hr
    · (first | lia | omega)
    · exact ih (by (first | lia | omega)) r hr
theorem allRows_len (p : Pg) : (allRows p).length ≤ p.1.length + 1 := by
  unfold allRows
  split <;> simp
section
variable {prog : Program} {w : World} {p : Program} {loose : List Str} {mean : ExcName → Option Value} {mg mb : Str → Option Value}
theorem signs_ok (pg dx o : Addr) (t1 t2 tr : Tok) (row : List Nat) (rows : List (List Nat)) (vs : List Value) (k : Nat) (own : Ledger) (h1 : @Ne Nat pg dx) (h2 : @Ne Nat pg o) (h3 : @Ne Nat dx o) (ho : OwnOff own [pg, dx, o]) (hv : RowsAre vs rows) (hsz : rows.length ≤ 10000) (hr : row.length ≤ 10000) (lt : Addr) (tvs : List Value) (nt : Nat) (txs : List (List Nat × Bool)) (width : Nat) (tw : Tok) (hl : (lt, W.listOf tvs.toArray nt) ∈ own) (hts : TextsIn own tvs txs) (hw : width ≤ 1000) (hts2 : txs.length ≤ 1000)
    (hflat : SameT (allRows (rows, row)).flatten (txs.map Prod.fst).flatten) (hflat2 : (allRows (rows, row)).flatten.length ≤ 100000) (hne : 0 < (allRows (rows, row)).length) (hwid : ∀ r ∈ allRows (rows, row), width = 0 ∨ r.length ≤ width) :
  Ctr prog w p loose mean mg mb 154 2 [.ref pg, .ref lt, .int (width : Int) tw]
    (PL w.params pg dx o t1 t2 row tr vs k own)
    (fun v news' => v = .bool true ∧ news' = PL w.params pg dx o t1 t2 row tr vs k own) := by
  have hrl := rows_short hflat2
  have hal := allRows_len (rows, row)
  simp only at hal
  have hflat3 : (txs.map Prod.fst).flatten.length ≤ 100000 := by have e : _ = _ := hflat; rw [← e]; exact hflat2
  refine Ctr.of ?_
  intro dp un gd cn cs a ccd cl outer A₀ base h₀ L m hp gn dr tk0 os0 Q E B F X N Tp hk hdp hun hret
  (try dsimp only [PL] at N hret)
  w_on
  k_with_none
  k_with "call builtin:list.append" =>
    (k_here; (show wpAny _ _ (call (Value.builtin "list.append") [Value.ref _, _]) _ _ _); k_dflt (refine' append_K ?y1k1 ?y1k2 ?y1k3 ?_ ?y1z; (case y1k1 => k_asm); (case y1k2 => k_asm); (case y1k3 => k_upd); (case y1z => first | size_fits | (simp only [List.size_toArray, sizeLine_eq]; (first | lia | omega))); k_whole); intro h' F' N'; (try k_sweep))
  k_with "call builtin:len" =>
    ((with_reducible show wpAny _ _ (call (Value.builtin "len") [Value.str _ _]) _ _ _); (refine' len_X ?y2kx ?y2kz ?_; (case y2kx => first | exact rfl | exact T_nil | exact T_blank); (case y2kz => first | (first | lia | omega) | ((try simp only [List.length_append, List.length_replicate, List.length_nil, List.length_cons, List.length_take, List.length_drop]); (first | lia | omega))); k_whole))
  k_with "binaryOp Add str str" =>
    ((with_reducible show wpAny _ _ (binaryOp Operator.Add (Value.str _ _) (Value.str _ _)) _ _ _); (refine' add_X ?y3kx ?y3ky ?y3kz ?_; (case y3kx => first | exact rfl | exact T_nil | exact T_blank); (case y3ky => first | exact rfl | exact T_nil | exact T_blank); (case y3kz => first | (first | lia | omega) | ((try simp only [List.length_append, List.length_replicate, List.length_nil, List.length_cons, List.length_take, List.length_drop]); (first | lia | omega))); k_whole); intro _ _)
  k_with "compareOp Eq str str" =>
    ((with_reducible show wpAny _ _ (compareOp CmpOp.Eq (Value.str (T _) _) (Value.str _ _)) _ _ _); (refine' eq_X ?y4kx ?y4ky ?_; (case y4kx => first | exact rfl | exact T_nil | exact T_blank); (case y4ky => first | exact rfl | exact T_nil | exact T_blank); k_whole))
  k_with "compareOp Eq str str" =>
    ((with_reducible show wpAny _ _ (compareOp CmpOp.Eq (Value.str _ _) (Value.str (T _) _)) _ _ _); (refine' eq_X ?y5kx ?y5ky ?_; (case y5kx => first | exact rfl | exact T_nil | exact T_blank); (case y5ky => first | exact rfl | exact T_nil | exact T_blank); k_whole))
  k_with "compareOp NotEq str str" =>
    ((with_reducible show wpAny _ _ (compareOp CmpOp.NotEq (Value.str (T _) _) (Value.str _ _)) _ _ _); (refine' ne_X ?y6kx ?y6ky ?_; (case y6kx => first | exact rfl | exact T_nil | exact T_blank); (case y6ky => first | exact rfl | exact T_nil | exact T_blank); k_whole))
  k_with "compareOp NotEq str str" =>
    ((with_reducible show wpAny _ _ (compareOp CmpOp.NotEq (Value.str _ _) (Value.str (T _) _)) _ _ _); (refine' ne_X ?y7kx ?y7ky ?_; (case y7kx => first | exact rfl | exact T_nil | exact T_blank); (case y7ky => first | exact rfl | exact T_nil | exact T_blank); k_whole))
  k_with "binaryOp Mult str int" =>
    ((with_reducible show wpAny _ _ (binaryOp Operator.Mult (Value.str _ _) (Value.int _ _)) _ _ _); (refine' mul_X ?y8kx ?y8k0 ?y8kn ?_; (case y8kx => first | exact rfl | exact T_blank); (case y8k0 => first | (first | lia | omega) | (simp only [List.length_nil]; (first | lia | omega))); (case y8kn => first | (first | lia | omega) | (simp only [List.length_nil]; (first | lia | omega))); k_whole); intro _ _)
  k_with "subscriptTail Name Slice str ref" =>
    ((with_reducible show wpAny _ _ (subscriptTail _ (PySem.Expr.Slice none (some _) none _) (Value.str (T _) _) _) _ _ _); (with_reducible rename Fr _ _ _ _ => F'); (with_reducible rename News _ _ _ _ => N'); (refine' take_T (s := ⟨_, _, _, _, _⟩) ?y9k0 ?y9k1 ?y9kz F' N' ?_ ?y9ks ?y9kt; (case y9k0 => (first | lia | omega)); (case y9k1 => (first | lia | omega)); (case y9kz => (first | lia | omega)); (case y9ks => with_unfolding_all rfl); (case y9kt => intro _; with_unfolding_all rfl); k_whole); intro h' _ _ F' N')
  k_with "subscriptTail Name Slice str ref" =>
    ((with_reducible show wpAny _ _ (subscriptTail _ (PySem.Expr.Slice (some _) none none _) (Value.str (T _) _) _) _ _ _); (with_reducible rename Fr _ _ _ _ => F'); (with_reducible rename News _ _ _ _ => N'); (refine' drop_T (s := ⟨_, _, _, _, _⟩) ?y10k0 ?y10k1 ?y10kz F' N' ?_ ?y10ks ?y10kt; (case y10k0 => (first | lia | omega)); (case y10k1 => (first | lia | omega)); (case y10kz => (first | lia | omega)); (case y10ks => with_unfolding_all rfl); (case y10kt => intro _; with_unfolding_all rfl); k_whole); intro h' _ _ F' N')
  k_with "call ref" =>
    k_dflt (k_extra "my call")
  k_with "exec While" =>
    k_dflt (k_extra "my while")
  k_with "exec For" =>
    k_dflt (k_extra "my for")
  k_with "pyIter ref" =>
    k_dflt (k_extra "my iter")
  k_with "subscriptTail Name Constant ref int" =>
    k_dflt (k_extra "my item")
  k_with "binaryOp Add ref ref" =>
    (k_here; (show wpAny _ _ (binaryOp Operator.Add (Value.ref _) (Value.ref _)) _ _ _); k_dflt (refine' add_L ?y16k1 ?y16k2 ?y16k3 ?y16k4 ?_ ?y16z; (case y16k1 => k_asm); (case y16k2 => k_asm); (case y16k3 => k_mem); (case y16k4 => k_mem); (case y16z => first | (first | lia | omega) | (simp only [List.length_cons, List.length_nil, List.length_append]; (first | lia | omega))); k_whole); intro c9 h9 F9 N9 l9; (have lA := allLt_of l9); (try k_lt l9); (try dsimp only [List.append_nil, List.nil_append, List.cons_append] at N9); (try k_sweep))
  k_with "subscriptTail Constant" =>
    ((with_reducible show wpAny _ _ (subscriptTail _ (PySem.Expr.Slice (some _) (some _) none _) (Value.str (Str.ofString "abcdefghijklmnopqrst") _) _) _ _ _); (with_reducible rename Fr _ _ _ _ => F'); (with_reducible rename News _ _ _ _ => N'); (refine' cut_X (s := ⟨_, _, _, _, _⟩) alpha_T ?y17k0 ?y17k1 ?y17k2 ?y17kz F' N' ?_ ?y17ks ?y17kt; (case y17k0 => (first | lia | omega)); (case y17k1 => (first | lia | omega)); (case y17k2 => rw [List.length_range']; (first | lia | omega)); (case y17kz => rw [List.length_range']; decide); (case y17ks => with_unfolding_all rfl); (case y17kt => intro _; with_unfolding_all rfl); k_whole); intro h' _ _ F' N')
  k_with "subscriptTail Attribute" =>
    k_dflt (k_extra "my item2")
  k_with "call builtin:len" =>
    (k_here; (with_reducible show wpAny _ _ (call (Value.builtin "len") [Value.ref _]) _ _ _); k_dflt (refine' len_L ?y19k1 ?y19k2 ?y19z ?_; (case y19k1 => k_asm); (case y19k2 => first | k_mem | ((repeat' (first | assumption | refine List.mem_cons_of_mem _ ?_)); done)); (case y19z => first | (first | lia | omega) | ((try simp only [List.length_append, List.length_nil, List.length_cons]); (first | lia | omega))); k_whole))
  k_with "subscriptTail Attribute BinOp ref int" =>
    k_dflt (k_extra "my item2")
  k_with "eval ListComp" =>
    k_dflt (k_extra "my comp")
  k_with "CompSrc" =>
    k_dflt (k_extra "my src")
  k_with "CompSrcT" =>
    k_dflt (k_extra "my srcT")
  k_with "SrcLP" =>
    k_dflt (k_extra "my srcP")
  k_with "CompEnd" =>
    k_dflt (k_extra "my end")
  k_with "call builtin:str.join" =>
    (k_here; (show wpAny _ _ (call (Value.builtin "str.join") [Value.str _ _, Value.ref _]) _ _ _); k_dflt (refine' join_X T_nil ?y26k1 ?y26k2 ?y26k3 ?y26z ?_; (case y26k1 => k_asm); (case y26k2 => k_mem); (case y26k3 => assumption); (case y26z => first | (first | lia | omega) | ((try simp only [List.length_append, List.length_nil, List.length_cons]); (first | lia | omega))); k_whole); intro _ _)
  k_with "call builtin:max" =>
    (k_here; (show wpAny _ _ (call (Value.builtin "max") [Value.ref _]) _ _ _); k_dflt (refine' max_X ?y27k0 ?y27k1 ?y27k2 ?y27k3 ?y27k4 ?y27z ?_; (case y27k0 => rfl); (case y27k1 => k_asm); (case y27k2 => k_asm); (case y27k3 => k_mem); (case y27k4 => assumption); (case y27z => first | (first | lia | omega) | ((try simp only [List.length_map, List.length_append, List.length_nil, List.length_cons]); (first | lia | omega))); k_whole); intro h9 M9 t9 tk9 F9 N9 hM1 hM2; (try k_sweep))
  k_with "call builtin:min" =>
    (k_here; (show wpAny _ _ (call (Value.builtin "min") [Value.ref _]) _ _ _); k_dflt (refine' min_X ?y28k0 ?y28k1 ?y28k2 ?y28k3 ?y28k4 ?y28z ?_; (case y28k0 => rfl); (case y28k1 => k_asm); (case y28k2 => k_asm); (case y28k3 => k_mem); (case y28k4 => assumption); (case y28z => first | (first | lia | omega) | ((try simp only [List.length_map, List.length_append, List.length_nil, List.length_cons]); (first | lia | omega))); k_whole); intro h9 M9 t9 tk9 F9 N9 hM1 hM2; (try k_sweep))
  k_with "compareOp NotEq str str" =>
    ((with_reducible show wpAny _ _ (compareOp CmpOp.NotEq (Value.str (T _) _) (Value.str (T _) _)) _ _ _); (refine' ne_K ?y29kx ?y29ky ?y29ks ?_; (case y29kx => exact rfl); (case y29ky => exact rfl); (case y29ks => assumption); k_whole))
  k_with "assign Tuple" =>
    k_dflt (k_extra "my assign")
  k_with "SelSrc" =>
    k_dflt (k_extra "my sel")
  k_with "compareOp Gt ref ref" =>
    (k_here; (with_reducible show wpAny _ _ (compareOp CmpOp.Gt (Value.ref _) (Value.ref _)) _ _ _); k_dflt (refine' gt_pair ?y33k1 ?y33k2 ?y33k3 ?y33k4 ?_; (case y33k1 => (first | exact roomU (by with_reducible assumption) (by rfl) | exact roomU (by assumption) (by rfl) | ktr_units | ((dsimp only [ak]); ktr_units))); (case y33k2 => k_asm); (case y33k3 => k_mem); (case y33k4 => k_mem); k_whole))
  k_with "subscriptTail Name Slice ref ref" =>
    (k_here; (with_reducible show wpAny _ _ (subscriptTail _ (PySem.Expr.Slice _ _ none _) (Value.ref _) (Value.ref _)) _ _ _); k_dflt (refine' kmk_slice_ints ?y34F ?y34N ?y34l ?y34p ?y34q ?y34i ?y34m ?y34c ?_ ?y34s ?y34t ?y34z; (case y34F => k_asm); (case y34N => k_asm); (case y34l => exact News.isList (by k_asm) (by first | k_mem | (repeat' (first | assumption | refine List.mem_cons_of_mem _ ?_)))); (case y34p => kmk_part); (case y34q => kmk_part); (case y34i => assumption); (case y34m => exact kmk_run (by assumption) (by (first | lia | omega)) (by (first | lia | omega))); (case y34c => exact rfl); (case y34s => with_unfolding_all rfl); (case y34t => kmk_pure); (case y34z => first | assumption | kmk_size)); intro D' ws' h' F' N' l1 hI' hC' hL'; (try k_lt l1); (try k_sweep))
  k_with "k_ne" =>
    first | with_reducible assumption | exact Ne.symm (by with_reducible assumption) | exact Nat.ne_of_lt (by with_reducible assumption) | exact Nat.ne_of_gt (by with_reducible assumption) | exact neL0 (by with_reducible assumption) | exact neR0 (by with_reducible assumption) | exact neL1 (by with_reducible assumption) | exact neR1 (by with_reducible assumption) | exact neL2 (by with_reducible assumption) | exact neR2 (by with_reducible assumption) | exact neL3 (by with_reducible assumption) | exact neR3 (by with_reducible assumption) | exact neL4 (by with_reducible assumption) | exact neR4 (by with_reducible assumption) | exact neL5 (by with_reducible assumption) | exact neR5 (by with_reducible assumption) | exact neL6 (by with_reducible assumption) | exact neR6 (by with_reducible assumption) | exact neL7 (by with_reducible assumption) | exact neR7 (by with_reducible assumption) | exact neL8 (by with_reducible assumption) | exact neR8 (by with_reducible assumption) | exact neL9 (by with_reducible assumption) | exact neR9 (by with_reducible assumption) | exact neL10 (by with_reducible assumption) | exact neR10 (by with_reducible assumption) | exact neL11 (by with_reducible assumption) | exact neR11 (by with_reducible assumption) | exact neL12 (by with_reducible assumption) | exact neR12 (by with_reducible assumption) | exact neL13 (by with_reducible assumption) | exact neR13 (by with_reducible assumption) | exact neTL0 (by with_reducible assumption) (by with_reducible assumption) | exact neTR0 (by with_reducible assumption) (by with_reducible assumption) | exact neTL1 (by with_reducible assumption) (by with_reducible assumption) | exact neTR1 (by with_reducible assumption) (by with_reducible assumption) | exact neTL2 (by with_reducible assumption) (by with_reducible assumption) | exact neTR2 (by with_reducible assumption) (by with_reducible assumption) | exact neTL3 (by with_reducible assumption) (by with_reducible assumption) | exact neTR3 (by with_reducible assumption) (by with_reducible assumption) | exact neTL4 (by with_reducible assumption) (by with_reducible assumption) | exact neTR4 (by with_reducible assumption) (by with_reducible assumption) | exact neTL5 (by with_reducible assumption) (by with_reducible assumption) | exact neTR5 (by with_reducible assumption) (by with_reducible assumption) | exact neTL6 (by with_reducible assumption) (by with_reducible assumption) | exact neTR6 (by with_reducible assumption) (by with_reducible assumption) | exact neTL7 (by with_reducible assumption) (by with_reducible assumption) | exact neTR7 (by with_reducible assumption) (by with_reducible assumption) | exact neTL8 (by with_reducible assumption) (by with_reducible assumption) | exact neTR8 (by with_reducible assumption) (by with_reducible assumption) | exact neTL9 (by with_reducible assumption) (by with_reducible assumption) | exact neTR9 (by with_reducible assumption) (by with_reducible assumption) | exact neQ0 (by with_reducible assumption) | exact Ne.symm (neQ0 (by with_reducible assumption)) | exact neQ1 (by with_reducible assumption) | exact Ne.symm (neQ1 (by with_reducible assumption)) | exact neQ2 (by with_reducible assumption) | exact Ne.symm (neQ2 (by with_reducible assumption)) | exact neQ3 (by with_reducible assumption) | exact Ne.symm (neQ3 (by with_reducible assumption)) | exact neQ4 (by with_reducible assumption) | exact Ne.symm (neQ4 (by with_reducible assumption)) | exact neQ5 (by with_reducible assumption) | exact Ne.symm (neQ5 (by with_reducible assumption)) | exact neQ6 (by with_reducible assumption) | exact Ne.symm (neQ6 (by with_reducible assumption)) | exact neQ7 (by with_reducible assumption) | exact Ne.symm (neQ7 (by with_reducible assumption)) | exact neQ8 (by with_reducible assumption) | exact Ne.symm (neQ8 (by with_reducible assumption)) | exact neQ9 (by with_reducible assumption) | exact Ne.symm (neQ9 (by with_reducible assumption))
  k_with "my call" =>
    (show wpAny _ _ (call (Value.ref 128) [_]) _ _ _)
    (with_reducible rename News _ _ _ _ => kN)
    (first
      | (with_unfolding_all refine Ctr.useA (all_rows_ok _ _ _ _ _ _ _ _ _ _ _ (by assumption) (by assumption) (by assumption) (by repeat' (first | assumption | (refine off_cons3 (by k_ne) (by k_ne) (by k_ne) ?_))) (by assumption) (by first | with_reducible assumption | exact Nat.le_trans (by with_reducible assumption) (by decide) | (first | lia | omega) | (simp only [List.length_append, List.length_cons, List.length_nil, List.length_replicate]; (first | lia | omega))) (by first | with_reducible assumption | exact Nat.le_trans (by with_reducible assumption) (by decide) | (first | lia | omega) | (simp only [List.length_append, List.length_cons, List.length_nil, List.length_replicate]; (first | lia | omega)))) (by k_asm) (by k_asm) (by k_asm) (rot [] kN) (by k_asm) (by first | exact rfl | assumption) (by (first | exact roomL (by with_reducible assumption) (by rfl) | exact roomL (by assumption) (by rfl) | ktr_room | ((dsimp only [ak]); ktr_room))) (by (first | exact roomU (by with_reducible assumption) (by rfl) | exact roomU (by assumption) (by rfl) | ktr_units | ((dsimp only [ak]); ktr_units))) ?_)
      | (with_unfolding_all refine Ctr.useA (all_rows_ok _ _ _ _ _ _ _ _ _ _ _ (by assumption) (by assumption) (by assumption) (by repeat' (first | assumption | (refine off_cons3 (by k_ne) (by k_ne) (by k_ne) ?_))) (by assumption) (by first | with_reducible assumption | exact Nat.le_trans (by with_reducible assumption) (by decide) | (first | lia | omega) | (simp only [List.length_append, List.length_cons, List.length_nil, List.length_replicate]; (first | lia | omega))) (by first | with_reducible assumption | exact Nat.le_trans (by with_reducible assumption) (by decide) | (first | lia | omega) | (simp only [List.length_append, List.length_cons, List.length_nil, List.length_replicate]; (first | lia | omega)))) (by k_asm) (by k_asm) (by k_asm) (rot [_] kN) (by k_asm) (by first | exact rfl | assumption) (by (first | exact roomL (by with_reducible assumption) (by rfl) | exact roomL (by assumption) (by rfl) | ktr_room | ((dsimp only [ak]); ktr_room))) (by (first | exact roomU (by with_reducible assumption) (by rfl) | exact roomU (by assumption) (by rfl) | ktr_units | ((dsimp only [ak]); ktr_units))) ?_)
      | (with_unfolding_all refine Ctr.useA (all_rows_ok _ _ _ _ _ _ _ _ _ _ _ (by assumption) (by assumption) (by assumption) (by repeat' (first | assumption | (refine off_cons3 (by k_ne) (by k_ne) (by k_ne) ?_))) (by assumption) (by first | with_reducible assumption | exact Nat.le_trans (by with_reducible assumption) (by decide) | (first | lia | omega) | (simp only [List.length_append, List.length_cons, List.length_nil, List.length_replicate]; (first | lia | omega))) (by first | with_reducible assumption | exact Nat.le_trans (by with_reducible assumption) (by decide) | (first | lia | omega) | (simp only [List.length_append, List.length_cons, List.length_nil, List.length_replicate]; (first | lia | omega)))) (by k_asm) (by k_asm) (by k_asm) (rot [_, _] kN) (by k_asm) (by first | exact rfl | assumption) (by (first | exact roomL (by with_reducible assumption) (by rfl) | exact roomL (by assumption) (by rfl) | ktr_room | ((dsimp only [ak]); ktr_room))) (by (first | exact roomU (by with_reducible assumption) (by rfl) | exact roomU (by assumption) (by rfl) | ktr_units | ((dsimp only [ak]); ktr_units))) ?_)
      | (with_unfolding_all refine Ctr.useA (all_rows_ok _ _ _ _ _ _ _ _ _ _ _ (by assumption) (by assumption) (by assumption) (by repeat' (first | assumption | (refine off_cons3 (by k_ne) (by k_ne) (by k_ne) ?_))) (by assumption) (by first | with_reducible assumption | exact Nat.le_trans (by with_reducible assumption) (by decide) | (first | lia | omega) | (simp only [List.length_append, List.length_cons, List.length_nil, List.length_replicate]; (first | lia | omega))) (by first | with_reducible assumption | exact Nat.le_trans (by with_reducible assumption) (by decide) | (first | lia | omega) | (simp only [List.length_append, List.length_cons, List.length_nil, List.length_replicate]; (first | lia | omega)))) (by k_asm) (by k_asm) (by k_asm) (rot [_, _, _] kN) (by k_asm) (by first | exact rfl | assumption) (by (first | exact roomL (by with_reducible assumption) (by rfl) | exact roomL (by assumption) (by rfl) | ktr_room | ((dsimp only [ak]); ktr_room))) (by (first | exact roomU (by with_reducible assumption) (by rfl) | exact roomU (by assumption) (by rfl) | ktr_units | ((dsimp only [ak]); ktr_units))) ?_)
      | (with_unfolding_all refine Ctr.useA (all_rows_ok _ _ _ _ _ _ _ _ _ _ _ (by assumption) (by assumption) (by assumption) (by repeat' (first | assumption | (refine off_cons3 (by k_ne) (by k_ne) (by k_ne) ?_))) (by assumption) (by first | with_reducible assumption | exact Nat.le_trans (by with_reducible assumption) (by decide) | (first | lia | omega) | (simp only [List.length_append, List.length_cons, List.length_nil, List.length_replicate]; (first | lia | omega))) (by first | with_reducible assumption | exact Nat.le_trans (by with_reducible assumption) (by decide) | (first | lia | omega) | (simp only [List.length_append, List.length_cons, List.length_nil, List.length_replicate]; (first | lia | omega)))) (by k_asm) (by k_asm) (by k_asm) (rot [_, _, _, _] kN) (by k_asm) (by first | exact rfl | assumption) (by (first | exact roomL (by with_reducible assumption) (by rfl) | exact roomL (by assumption) (by rfl) | ktr_room | ((dsimp only [ak]); ktr_room))) (by (first | exact roomU (by with_reducible assumption) (by rfl) | exact roomU (by assumption) (by rfl) | ktr_units | ((dsimp only [ak]); ktr_units))) ?_)
      | (with_unfolding_all refine Ctr.useA (all_rows_ok _ _ _ _ _ _ _ _ _ _ _ (by assumption) (by assumption) (by assumption) (by repeat' (first | assumption | (refine off_cons3 (by k_ne) (by k_ne) (by k_ne) ?_))) (by assumption) (by first | with_reducible assumption | exact Nat.le_trans (by with_reducible assumption) (by decide) | (first | lia | omega) | (simp only [List.length_append, List.length_cons, List.length_nil, List.length_replicate]; (first | lia | omega))) (by first | with_reducible assumption | exact Nat.le_trans (by with_reducible assumption) (by decide) | (first | lia | omega) | (simp only [List.length_append, List.length_cons, List.length_nil, List.length_replicate]; (first | lia | omega)))) (by k_asm) (by k_asm) (by k_asm) (rot [_, _, _, _, _] kN) (by k_asm) (by first | exact rfl | assumption) (by (first | exact roomL (by with_reducible assumption) (by rfl) | exact roomL (by assumption) (by rfl) | ktr_room | ((dsimp only [ak]); ktr_room))) (by (first | exact roomU (by with_reducible assumption) (by rfl) | exact roomU (by assumption) (by rfl) | ktr_units | ((dsimp only [ak]); ktr_units))) ?_))
    clear kN
    intro la9 ws9 h9 tk9 lA9 hv9 F9 N9
    (try dsimp only [PL, List.cons_append, List.nil_append] at N9)
    (try dsimp only)
    (try k_sweep)
  k_with "my comp" =>
    (first
      | ((with_reducible show wpAny _ _ (eval (PySem.Expr.ListComp _ [⟨PySem.Expr.Tuple _ _ _, _, [], 0⟩] _ _) _) _ _ _); refine LCp.ListComp_P (F₀ := by k_asm) (by with_unfolding_all rfl) (by decide) (by rfl) (by decide) (by rfl) (by rfl) (by decide) ?_)
      | ((with_reducible show wpAny _ _ (eval (PySem.Expr.ListComp _ [⟨PySem.Expr.Name _ _, _, [], 0⟩] _ _) _) _ _ _); refine LCg.ListComp_U (F₀ := by k_asm) (by with_unfolding_all rfl) (by decide) (by rfl) (by decide) (by rfl) ?_)
      | ((with_reducible show wpAny _ _ (eval (PySem.Expr.ListComp _ [⟨PySem.Expr.Name _ _, _, [_], 0⟩] _ _) _) _ _ _); refine LCt.ListComp_T (F₀ := by k_asm) (by with_unfolding_all rfl) (by decide) (by rfl) (by decide) (by rfl) ?_))
  k_with "my srcP" =>
    (refine LCp.SrcLP.ledger (by rfl) (by k_asm) (by k_asm) (by repeat' (first | exact hl | refine List.mem_cons_of_mem _ ?_)) (by rw [List.size_toArray, hts.len]; exact line_of (by (first | lia | omega))) ?_)
    intro g9
    refine rest_P (fun i ys => RowsAre ys ((txs.take i).map Prod.fst)) RowsAre.nil ?_ ?_
    intro i v hi hvi
    revert hvi
    revert v
    refine hts.get_k ?_
    intro q x t e hq hxi
    refine ex5 q _ _ _ _ ⟨rfl, (by repeat' (first | exact hq | refine List.mem_cons_of_mem _ ?_)), rfl, rfl, ?_⟩
    intro ys I oI C oC D m₂ h7 tk7 E7 hR hC hx hy F7 N7 off ne
    rotate_left
    intro ys9 hR9
    (have e9 : txs.take tvs.toArray.size = txs := by rw [List.size_toArray, hts.len, List.take_length])
    rw [e9] at hR9
    rotate_right
  k_with "my src" =>
    (refine LCg.CompSrc.ledger (by rfl) (by k_asm) (by k_asm) (by k_mem) (by rw [List.size_toArray, hv9.len]; exact line_of (by (first | lia | omega))) ?_)
    intro g9
    refine rest_U (fun i ys => IntsAre ys (((allRows (rows, row)).take i).map fun r => (r.length : Int))) IntsAre.nil ?_ ?_
    intro i v ys I oI C oC D m₂ h7 tk7 E7 hi hvi hR hC hx F7 N7 off ne
    revert hx
    revert hvi
    revert v
    refine hv9.get_k ?_
    intro r t hri hx
    (have hr8 := hrl r (List.mem_of_getElem? hri))
    rotate_left
    intro ys9 hR9
    (have e9 : (allRows (rows, row)).take ws9.toArray.size = allRows (rows, row) := by rw [List.size_toArray, hv9.len, List.take_length])
    rw [e9] at hR9
    rotate_right
  k_with "my end" =>
    (with_reducible rename News _ _ _ _ => kN)
    (with_reducible rename Fr _ _ _ _ => kF)
    (first
      | (refine LCg.CompEnd.intro kF kN _ (fun p hp => hp) off (Or.inr ⟨_, (by repeat' (first | exact hl | refine List.mem_cons_of_mem _ ?_)), rfl, _, rfl⟩) ⟨rfl, ?_⟩; rw [take_snoc hxi, List.map_append]; exact hR.snoc x t)
      | (refine LCg.CompEnd.intro kF kN _ (fun p hp => hp) off (Or.inr ⟨_, (by k_mem), rfl, _, rfl⟩) ⟨rfl, ?_⟩; rw [take_snoc hri, List.map_append]; exact IntsAre.append hR (.cons _ _ .nil)))
  refine wpAny_call ?_
  k_dflt cell_enter
  (try (refine nameL ?_; intro ak; refine nameE ?_; intro ev))
  repeat' (first | (k_unfold; (try dsimp only)) | walk1 | (dsimp only; walk1) | fail "no step")
  all_goals (rename Fr _ _ _ _ => kF)
  all_goals (rename News _ _ _ _ => kN)
  · rename (width : Int) = 0 => hz
    rw [show ((width : Int) == 0) = true by rw [hz]; rfl]
    exact hret _ _ _ _ ⟨rfl, rfl⟩ kF (news_of kN (fun p hp => .tail _ (.tail _ hp)))
  · rename (width : Int) ≠ 0 => hz
    rename _ ∈ List.map _ _ => hM
    obtain ⟨r, hr9, hr8⟩ := List.mem_map.mp hM
    have h8 := hwid r hr9
    rw [decide_eq_true (by rw [← hr8]; (first | lia | omega))]
    exact hret _ _ _ _ ⟨rfl, rfl⟩ kF (news_of kN (fun p hp => .tail _ (.tail _ (.tail _ hp))))
end
end
/-! part EP -/
section
theorem Ctr.useN {prog : Program} {w : World} {p : Program} {loose : List Str} {mean : ExcName → Option Value} {mg mb : Str → Option Value} {f : Addr} {need : Nat} {vs : List Value} {news : Ledger}
    {dp un : Nat} {gd : Option (List Code)} {cn : Str} {cs : Scope} {a : Addr} {ccd : Value} {cl : List (Str × Addr)} {outer : List Env} {A₀ : Around} {base h₀ : Heap} {L : Addr} {m : Str → Option Value} {s : Shared} {Q E : Value → Shared → Prop}
    (C : Ctr prog w p loose mean mg mb f need vs news (fun v news' => ∃ (x d o : Addr) (a b c : Tok), v = .ref x ∧ AllLt d news ∧ (@LT.lt Nat _ d x) ∧ ((@LT.lt Nat _ x o) ∧ (@LT.lt Nat _ d o) ∧ AllLt o news) ∧ news' = (o, W.listOf #[] 0) :: (x, instObj 54 d) :: (d, dictOf (pageD w.params a b o (.str (T []) c)) 2) :: news))
    (B : Below A₀ base outer h₀) (F : Fr h₀ L s.heap m) (X : (hd.heap_39 w.params).In h₀) (N : News h₀ L s.heap news) (T9 : Top p loose mean mg mb h₀) (hk : cs.kind = .function)
    (hd : dp + need < recursionLimit) (hu : un + 8 * need < cLine)
    (ret : ∀ (x d o : Addr) (a b c : Tok) h' tk', AllLt d news → (@LT.lt Nat _ d x) → ((@LT.lt Nat _ x o) ∧ (@LT.lt Nat _ d o) ∧ AllLt o news) → Fr h₀ L h' m → News h₀ L h' ((o, W.listOf #[] 0) :: (x, instObj 54 d) :: (d, dictOf (pageD w.params a b o (.str (T []) c)) 2) :: news) → Q (.ref x) { s with heap := h', toks := tk' }) :
    wpAny (model prog w) (ktrTop dp un gd cn cs L a ccd cl outer) (call (.ref f) vs) Q E s :=
  C.use B F X N T9 hk hd hu (by rintro v9 n9 h9 tk9 ⟨x, d, o, a, b, c, rfl, l1, l2, l3, rfl⟩ F9 N9; exact ret x d o a b c h9 tk9 l1 l2 l3 F9 N9)
section
variable {prog : Program} {w : World} {p : Program} {loose : List Str} {mean : ExcName → Option Value} {mg mb : Str → Option Value}
theorem page_new (own : Ledger) :
  Ctr prog w p loose mean mg mb 54 1 [] own
    (fun v news' => ∃ (x d o : Addr) (a b c : Tok), v = .ref x ∧ AllLt d own ∧ (@LT.lt Nat _ d x) ∧ ((@LT.lt Nat _ x o) ∧ (@LT.lt Nat _ d o) ∧ AllLt o own) ∧ news' = (o, W.listOf #[] 0) :: (x, instObj 54 d) :: (d, dictOf (pageD w.params a b o (.str (T []) c)) 2) :: own) := by
  refine Ctr.of ?_
  intro dp un gd cn cs a ccd cl outer A₀ base h₀ L m hp gn dr tk0 os0 Q E B F X N Tp hk hdp hun hret
  (try dsimp only [PL] at N hret)
  w_on
  k_with_none
  k_with "call builtin:list.append" =>
    (k_here; (show wpAny _ _ (call (Value.builtin "list.append") [Value.ref _, _]) _ _ _); k_dflt (refine' append_K ?y1k1 ?y1k2 ?y1k3 ?_ ?y1z; (case y1k1 => k_asm); (case y1k2 => k_asm); (case y1k3 => k_upd); (case y1z => first | size_fits | (simp only [List.size_toArray, sizeLine_eq]; (first | lia | omega))); k_whole); intro h' F' N'; (try k_sweep))
  k_with "call builtin:len" =>
    ((with_reducible show wpAny _ _ (call (Value.builtin "len") [Value.str _ _]) _ _ _); (refine' len_X ?y2kx ?y2kz ?_; (case y2kx => first | exact rfl | exact T_nil | exact T_blank); (case y2kz => first | (first | lia | omega) | ((try simp only [List.length_append, List.length_replicate, List.length_nil, List.length_cons, List.length_take, List.length_drop]); (first | lia | omega))); k_whole))
  k_with "binaryOp Add str str" =>
    ((with_reducible show wpAny _ _ (binaryOp Operator.Add (Value.str _ _) (Value.str _ _)) _ _ _); (refine' add_X ?y3kx ?y3ky ?y3kz ?_; (case y3kx => first | exact rfl | exact T_nil | exact T_blank); (case y3ky => first | exact rfl | exact T_nil | exact T_blank); (case y3kz => first | (first | lia | omega) | ((try simp only [List.length_append, List.length_replicate, List.length_nil, List.length_cons, List.length_take, List.length_drop]); (first | lia | omega))); k_whole); intro _ _)
  k_with "compareOp Eq str str" =>
    ((with_reducible show wpAny _ _ (compareOp CmpOp.Eq (Value.str (T _) _) (Value.str _ _)) _ _ _); (refine' eq_X ?y4kx ?y4ky ?_; (case y4kx => first | exact rfl | exact T_nil | exact T_blank); (case y4ky => first | exact rfl | exact T_nil | exact T_blank); k_whole))
  k_with "compareOp Eq str str" =>
    ((with_reducible show wpAny _ _ (compareOp CmpOp.Eq (Value.str _ _) (Value.str (T _) _)) _ _ _); (refine' eq_X ?y5kx ?y5ky ?_; (case y5kx => first | exact rfl | exact T_nil | exact T_blank); (case y5ky => first | exact rfl | exact T_nil | exact T_blank); k_whole))
  k_with "compareOp NotEq str str" =>
    ((with_reducible show wpAny _ _ (compareOp CmpOp.NotEq (Value.str (T _) _) (Value.str _ _)) _ _ _); (refine' ne_X ?y6kx ?y6ky ?_; (case y6kx => first | exact rfl | exact T_nil | exact T_blank); (case y6ky => first | exact rfl | exact T_nil | exact T_blank); k_whole))
  k_with "compareOp NotEq str str" =>
    ((with_reducible show wpAny _ _ (compareOp CmpOp.NotEq (Value.str _ _) (Value.str (T _) _)) _ _ _); (refine' ne_X ?y7kx ?y7ky ?_; (case y7kx => first | exact rfl | exact T_nil | exact T_blank); (case y7ky => first | exact rfl | exact T_nil | exact T_blank); k_whole))
  k_with "binaryOp Mult str int" =>
    ((with_reducible show wpAny _ _ (binaryOp Operator.Mult (Value.str _ _) (Value.int _ _)) _ _ _); (refine' mul_X ?y8kx ?y8k0 ?y8kn ?_; (case y8kx => first | exact rfl | exact T_blank); (case y8k0 => first | (first | lia | omega) | (simp only [List.length_nil]; (first | lia | omega))); (case y8kn => first | (first | lia | omega) | (simp only [List.length_nil]; (first | lia | omega))); k_whole); intro _ _)
  k_with "subscriptTail Name Slice str ref" =>
    ((with_reducible show wpAny _ _ (subscriptTail _ (PySem.Expr.Slice none (some _) none _) (Value.str (T _) _) _) _ _ _); (with_reducible rename Fr _ _ _ _ => F'); (with_reducible rename News _ _ _ _ => N'); (refine' take_T (s := ⟨_, _, _, _, _⟩) ?y9k0 ?y9k1 ?y9kz F' N' ?_ ?y9ks ?y9kt; (case y9k0 => (first | lia | omega)); (case y9k1 => (first | lia | omega)); (case y9kz => (first | lia | omega)); (case y9ks => with_unfolding_all rfl); (case y9kt => intro _; with_unfolding_all rfl); k_whole); intro h' _ _ F' N')
  k_with "subscriptTail Name Slice str ref" =>
    ((with_reducible show wpAny _ _ (subscriptTail _ (PySem.Expr.Slice (some _) none none _) (Value.str (T _) _) _) _ _ _); (with_reducible rename Fr _ _ _ _ => F'); (with_reducible rename News _ _ _ _ => N'); (refine' drop_T (s := ⟨_, _, _, _, _⟩) ?y10k0 ?y10k1 ?y10kz F' N' ?_ ?y10ks ?y10kt; (case y10k0 => (first | lia | omega)); (case y10k1 => (first | lia | omega)); (case y10kz => (first | lia | omega)); (case y10ks => with_unfolding_all rfl); (case y10kt => intro _; with_unfolding_all rfl); k_whole); intro h' _ _ F' N')
  k_with "call ref" =>
    k_dflt (k_extra "my call")
  k_with "exec While" =>
    k_dflt (k_extra "my while")
  k_with "exec For" =>
    k_dflt (k_extra "my for")
  k_with "pyIter ref" =>
    k_dflt (k_extra "my iter")
  k_with "subscriptTail Name Constant ref int" =>
    k_dflt (k_extra "my item")
  k_with "binaryOp Add ref ref" =>
    (k_here; (show wpAny _ _ (binaryOp Operator.Add (Value.ref _) (Value.ref _)) _ _ _); k_dflt (refine' add_L ?y16k1 ?y16k2 ?y16k3 ?y16k4 ?_ ?y16z; (case y16k1 => k_asm); (case y16k2 => k_asm); (case y16k3 => k_mem); (case y16k4 => k_mem); (case y16z => first | (first | lia | omega) | (simp only [List.length_cons, List.length_nil, List.length_append]; (first | lia | omega))); k_whole); intro c9 h9 F9 N9 l9; (have lA := allLt_of l9); (try k_lt l9); (try dsimp only [List.append_nil, List.nil_append, List.cons_append] at N9); (try k_sweep))
  k_with "subscriptTail Constant" =>
    ((with_reducible show wpAny _ _ (subscriptTail _ (PySem.Expr.Slice (some _) (some _) none _) (Value.str (Str.ofString "abcdefghijklmnopqrst") _) _) _ _ _); (with_reducible rename Fr _ _ _ _ => F'); (with_reducible rename News _ _ _ _ => N'); (refine' cut_X (s := ⟨_, _, _, _, _⟩) alpha_T ?y17k0 ?y17k1 ?y17k2 ?y17kz F' N' ?_ ?y17ks ?y17kt; (case y17k0 => (first | lia | omega)); (case y17k1 => (first | lia | omega)); (case y17k2 => rw [List.length_range']; (first | lia | omega)); (case y17kz => rw [List.length_range']; decide); (case y17ks => with_unfolding_all rfl); (case y17kt => intro _; with_unfolding_all rfl); k_whole); intro h' _ _ F' N')
  k_with "subscriptTail Attribute" =>
    k_dflt (k_extra "my item2")
  k_with "call builtin:len" =>
    (k_here; (with_reducible show wpAny _ _ (call (Value.builtin "len") [Value.ref _]) _ _ _); k_dflt (refine' len_L ?y19k1 ?y19k2 ?y19z ?_; (case y19k1 => k_asm); (case y19k2 => first | k_mem | ((repeat' (first | assumption | refine List.mem_cons_of_mem _ ?_)); done)); (case y19z => first | (first | lia | omega) | ((try simp only [List.length_append, List.length_nil, List.length_cons]); (first | lia | omega))); k_whole))
  k_with "subscriptTail Attribute BinOp ref int" =>
    k_dflt (k_extra "my item2")
  k_with "eval ListComp" =>
    k_dflt (k_extra "my comp")
  k_with "CompSrc" =>
    k_dflt (k_extra "my src")
  k_with "CompSrcT" =>
    k_dflt (k_extra "my srcT")
  k_with "SrcLP" =>
    k_dflt (k_extra "my srcP")
  k_with "CompEnd" =>
    k_dflt (k_extra "my end")
  k_with "call builtin:str.join" =>
    (k_here; (show wpAny _ _ (call (Value.builtin "str.join") [Value.str _ _, Value.ref _]) _ _ _); k_dflt (refine' join_X T_nil ?y26k1 ?y26k2 ?y26k3 ?y26z ?_; (case y26k1 => k_asm); (case y26k2 => k_mem); (case y26k3 => assumption); (case y26z => first | (first | lia | omega) | ((try simp only [List.length_append, List.length_nil, List.length_cons]); (first | lia | omega))); k_whole); intro _ _)
  k_with "call builtin:max" =>
    (k_here; (show wpAny _ _ (call (Value.builtin "max") [Value.ref _]) _ _ _); k_dflt (refine' max_X ?y27k0 ?y27k1 ?y27k2 ?y27k3 ?y27k4 ?y27z ?_; (case y27k0 => rfl); (case y27k1 => k_asm); (case y27k2 => k_asm); (case y27k3 => k_mem); (case y27k4 => assumption); (case y27z => first | (first | lia | omega) | ((try simp only [List.length_map, List.length_append, List.length_nil, List.length_cons]); (first | lia | omega))); k_whole); intro h9 M9 t9 tk9 F9 N9 hM1 hM2; (try k_sweep))
  k_with "call builtin:min" =>
    (k_here; (show wpAny _ _ (call (Value.builtin "min") [Value.ref _]) _ _ _); k_dflt (refine' min_X ?y28k0 ?y28k1 ?y28k2 ?y28k3 ?y28k4 ?y28z ?_; (case y28k0 => rfl); (case y28k1 => k_asm); (case y28k2 => k_asm); (case y28k3 => k_mem); (case y28k4 => assumption); (case y28z => first | (first | lia | omega) | ((try simp only [List.length_map, List.length_append, List.length_nil, List.length_cons]); (first | lia | omega))); k_whole); intro h9 M9 t9 tk9 F9 N9 hM1 hM2; (try k_sweep))
  k_with "compareOp NotEq str str" =>
    ((with_reducible show wpAny _ _ (compareOp CmpOp.NotEq (Value.str (T _) _) (Value.str (T _) _)) _ _ _); (refine' ne_K ?y29kx ?y29ky ?y29ks ?_; (case y29kx => exact rfl); (case y29ky => exact rfl); (case y29ks => assumption); k_whole))
  k_with "assign Tuple" =>
    k_dflt (k_extra "my assign")
  k_with "SelSrc" =>
    k_dflt (k_extra "my sel")
  k_with "compareOp Gt ref ref" =>
    (k_here; (with_reducible show wpAny _ _ (compareOp CmpOp.Gt (Value.ref _) (Value.ref _)) _ _ _); k_dflt (refine' gt_pair ?y33k1 ?y33k2 ?y33k3 ?y33k4 ?_; (case y33k1 => (first | exact roomU (by with_reducible assumption) (by rfl) | exact roomU (by assumption) (by rfl) | ktr_units | ((dsimp only [ak]); ktr_units))); (case y33k2 => k_asm); (case y33k3 => k_mem); (case y33k4 => k_mem); k_whole))
  k_with "subscriptTail Name Slice ref ref" =>
    (k_here; (with_reducible show wpAny _ _ (subscriptTail _ (PySem.Expr.Slice _ _ none _) (Value.ref _) (Value.ref _)) _ _ _); k_dflt (refine' kmk_slice_ints ?y34F ?y34N ?y34l ?y34p ?y34q ?y34i ?y34m ?y34c ?_ ?y34s ?y34t ?y34z; (case y34F => k_asm); (case y34N => k_asm); (case y34l => exact News.isList (by k_asm) (by first | k_mem | (repeat' (first | assumption | refine List.mem_cons_of_mem _ ?_)))); (case y34p => kmk_part); (case y34q => kmk_part); (case y34i => assumption); (case y34m => exact kmk_run (by assumption) (by (first | lia | omega)) (by (first | lia | omega))); (case y34c => exact rfl); (case y34s => with_unfolding_all rfl); (case y34t => kmk_pure); (case y34z => first | assumption | kmk_size)); intro D' ws' h' F' N' l1 hI' hC' hL'; (try k_lt l1); (try k_sweep))
  k_with "call ref" =>
    (k_here; (show wpAny _ _ (call (Value.ref 54) _) _ _ _); k_dflt (refine' call_cls ?y30k1 ?y30k2 ?y30k3 ?y30k4 ?y30k5 ?y30k6 ?_; (case y30k1 => k_asm); (case y30k2 => k_asm); (case y30k3 => k_asm); (case y30k4 => k_is); (case y30k5 => k_is); (case y30k6 => k_is); k_whole; intro x' d' h' F' N' l1 l2; (have lB := allLt_of l1); (try k_lt l1); (try k_lt2 l2); (try k_sweep); (refine' code_def ?y30q1 ?y30q2 ?y30q3 ?y30q4 ?y30q5 ?y30qA ?y30qF ?y30qK ?y30q6 ?y30q7 ?y30q8 ?y30q9 ?y30qB ?_ ?y30c2 ?y30c3 ?y30c4 ?y30c5; (case y30qA => exact rfl); (case y30qF => exact rfl); (case y30qK => first | exact rfl | assumption); (case y30q1 => k_asm); (case y30q2 => k_asm); (case y30q3 => k_asm); (case y30q4 => k_asm); (case y30q5 => k_asm); (case y30q6 => k_is); (case y30q7 => k_is); (case y30q8 => (first | exact roomL (by with_reducible assumption) (by rfl) | exact roomL (by assumption) (by rfl) | ktr_room | ((dsimp only [ak]); ktr_room))); (case y30q9 => exact BindsTo.of_eq rfl); (case y30c5 => decide); (case y30qB => exact locs rfl); (case y30c2 => exact rfl); (case y30c3 => exact rfl); (case y30c4 => exact rfl); k_whole; intro g' L' h' FG' F' N' B' X' T'; (try dsimp only); (try k_lift B'); (try k_fold))))
  k_with "k_ne" =>
    first | with_reducible assumption | exact Ne.symm (by with_reducible assumption) | exact Nat.ne_of_lt (by with_reducible assumption) | exact Nat.ne_of_gt (by with_reducible assumption) | exact neL0 (by with_reducible assumption) | exact neR0 (by with_reducible assumption) | exact neL1 (by with_reducible assumption) | exact neR1 (by with_reducible assumption) | exact neL2 (by with_reducible assumption) | exact neR2 (by with_reducible assumption) | exact neL3 (by with_reducible assumption) | exact neR3 (by with_reducible assumption) | exact neL4 (by with_reducible assumption) | exact neR4 (by with_reducible assumption) | exact neL5 (by with_reducible assumption) | exact neR5 (by with_reducible assumption) | exact neL6 (by with_reducible assumption) | exact neR6 (by with_reducible assumption) | exact neL7 (by with_reducible assumption) | exact neR7 (by with_reducible assumption) | exact neL8 (by with_reducible assumption) | exact neR8 (by with_reducible assumption) | exact neL9 (by with_reducible assumption) | exact neR9 (by with_reducible assumption) | exact neL10 (by with_reducible assumption) | exact neR10 (by with_reducible assumption) | exact neL11 (by with_reducible assumption) | exact neR11 (by with_reducible assumption) | exact neL12 (by with_reducible assumption) | exact neR12 (by with_reducible assumption) | exact neL13 (by with_reducible assumption) | exact neR13 (by with_reducible assumption) | exact neTL0 (by with_reducible assumption) (by with_reducible assumption) | exact neTR0 (by with_reducible assumption) (by with_reducible assumption) | exact neTL1 (by with_reducible assumption) (by with_reducible assumption) | exact neTR1 (by with_reducible assumption) (by with_reducible assumption) | exact neTL2 (by with_reducible assumption) (by with_reducible assumption) | exact neTR2 (by with_reducible assumption) (by with_reducible assumption) | exact neTL3 (by with_reducible assumption) (by with_reducible assumption) | exact neTR3 (by with_reducible assumption) (by with_reducible assumption) | exact neTL4 (by with_reducible assumption) (by with_reducible assumption) | exact neTR4 (by with_reducible assumption) (by with_reducible assumption) | exact neTL5 (by with_reducible assumption) (by with_reducible assumption) | exact neTR5 (by with_reducible assumption) (by with_reducible assumption) | exact neTL6 (by with_reducible assumption) (by with_reducible assumption) | exact neTR6 (by with_reducible assumption) (by with_reducible assumption) | exact neTL7 (by with_reducible assumption) (by with_reducible assumption) | exact neTR7 (by with_reducible assumption) (by with_reducible assumption) | exact neTL8 (by with_reducible assumption) (by with_reducible assumption) | exact neTR8 (by with_reducible assumption) (by with_reducible assumption) | exact neTL9 (by with_reducible assumption) (by with_reducible assumption) | exact neTR9 (by with_reducible assumption) (by with_reducible assumption) | exact neQ0 (by with_reducible assumption) | exact Ne.symm (neQ0 (by with_reducible assumption)) | exact neQ1 (by with_reducible assumption) | exact Ne.symm (neQ1 (by with_reducible assumption)) | exact neQ2 (by with_reducible assumption) | exact Ne.symm (neQ2 (by with_reducible assumption)) | exact neQ3 (by with_reducible assumption) | exact Ne.symm (neQ3 (by with_reducible assumption)) | exact neQ4 (by with_reducible assumption) | exact Ne.symm (neQ4 (by with_reducible assumption)) | exact neQ5 (by with_reducible assumption) | exact Ne.symm (neQ5 (by with_reducible assumption)) | exact neQ6 (by with_reducible assumption) | exact Ne.symm (neQ6 (by with_reducible assumption)) | exact neQ7 (by with_reducible assumption) | exact Ne.symm (neQ7 (by with_reducible assumption)) | exact neQ8 (by with_reducible assumption) | exact Ne.symm (neQ8 (by with_reducible assumption)) | exact neQ9 (by with_reducible assumption) | exact Ne.symm (neQ9 (by with_reducible assumption))
  repeat' (first | (k_unfold; (try dsimp only)) | walk1 | (dsimp only; walk1) | fail "no step")
  all_goals (rename Fr _ _ _ _ => kF)
  all_goals (rename News _ _ _ _ => kN)
  simp only [T_nil] at kN
  exact hret _ _ _ _ ⟨_, _, _, _, _, _, rfl, by assumption, by assumption, by assumption, rfl⟩ kF kN
end
end
/-! part Mid53 -/
theorem TextsIn.mono {own own' : Ledger} {vs : List Value} {ps : List (List Nat × Bool)} (h : TextsIn own vs ps) (hs : ∀ p ∈ own, p ∈ own') : TextsIn own' vs ps := by
  induction h with
  | nil => exact .nil
  | cons hq _ ih => exact .cons (hs _ hq) ih
theorem TextsIn.sel {own : Ledger} {vs : List Value} {ps : List (List Nat × Bool)} (h : TextsIn own vs ps) : SelIn own vs (ps.map (·.2)) := by
  induction h with
  | nil => exact .nil
  | cons hq _ ih => exact .cons hq ih
theorem SelIn.mono {own own' : Ledger} {vs : List Value} {bs : List Bool} (h : SelIn own vs bs) (hs : ∀ p ∈ own, p ∈ own') : SelIn own' vs bs := by
  induction h with
  | nil => exact .nil
  | cons hq _ ih => exact .cons (hs _ hq) ih
theorem off_lt {own : Ledger} {d x y z : Addr} (h : AllLt d own) (h1 : @LE.le Nat _ d x) (h2 : @LE.le Nat _ d y) (h3 : @LE.le Nat _ d z) : OwnOff own [x, y, z] := by
  induction own with
  | nil => intro p hp; nomatch hp
  | cons a own ih =>
    have h4 : @LT.lt Nat _ a.1 d := h.1
    exact off_cons3 (Nat.ne_of_lt (Nat.lt_of_lt_of_le h4 h1)) (Nat.ne_of_lt (Nat.lt_of_lt_of_le h4 h2)) (Nat.ne_of_lt (Nat.lt_of_lt_of_le h4 h3)) (ih h.2)
/-! part E10 -/
section
theorem toks_any {α : Type} {M : Model} {A : Around} {t : Sem α} {Q : α → Shared → Prop} {E : Value → Shared → Prop} {h : Heap} {g d X o} (H : ∀ tk, wpAny M A t Q E (Shared.mk h g d tk o)) : wpAny M A t Q E (Shared.mk h g d X o) := H X
abbrev PL3 (P : Params) (x1 d1 o1 : Addr) (a1 b1 : Tok) (x2 d2 o2 : Addr) (a2 b2 : Tok) (x3 d3 o3 : Addr) (a3 b3 : Tok) (p1 p2 p3 : Pg) (r1 : Tok) (v1 : List Value) (k1 : Nat) (r2 : Tok) (v2 : List Value) (k2 : Nat) (r3 : Tok) (v3 : List Value) (k3 : Nat) (own : Ledger) : Ledger :=
  PL P x1 d1 o1 a1 b1 p1.2 r1 v1 k1 (PL P x2 d2 o2 a2 b2 p2.2 r2 v2 k2 (PL P x3 d3 o3 a3 b3 p3.2 r3 v3 k3 own))
theorem three_pages {P : Params} {h₀ h : Heap} {L : Addr} {D' : Addr} {oT : Obj} {X1 D1 O1 X2 D2 O2 X3 D3 O3 : Addr} {a1 b1 c1 a2 b2 c2 a3 b3 c3 : Tok} {own : Ledger}
    (N : News h₀ L h ((D', oT) :: (O3, W.listOf #[] 0) :: (X3, instObj 54 D3) :: (D3, dictOf (pageD P a3 b3 O3 (.str (T []) c3)) 2) :: (O2, W.listOf #[] 0) :: (X2, instObj 54 D2) :: (D2, dictOf (pageD P a2 b2 O2 (.str (T []) c2)) 2) ::
      (O1, W.listOf #[] 0) :: (X1, instObj 54 D1) :: (D1, dictOf (pageD P a1 b1 O1 (.str (T []) c1)) 2) :: own)) :
      News h₀ L h (PL3 P X1 D1 O1 a1 b1 X2 D2 O2 a2 b2 X3 D3 O3 a3 b3 ([], []) ([], []) ([], []) c1 [] 0 c2 [] 0 c3 [] 0 own) := by
  (show News h₀ L h (_ :: _ :: _ :: _ :: _ :: _ :: _ :: _ :: _ :: own))
  (repeat' (first | (intro q hq; refine N q ?_; (repeat' (first | exact hq | refine List.mem_cons_of_mem _ ?_)); done) | refine newsC N (by k_mem) ?_))
def PgJ (P : Params) (x1 d1 o1 : Addr) (a1 b1 : Tok) (x2 d2 o2 : Addr) (a2 b2 : Tok) (x3 d3 o3 : Addr) (a3 b3 : Tok) (own : Ledger) (narrow wide : Nat) (txs : List (List Nat × Bool)) (m₀ : Str → Option Value) (i : Nat) (m : Str → Option Value) (nx : Ledger) : Prop :=
  ∃ r1 v1 k1 r2 v2 k2 r3 v3 k3, nx = PL3 P x1 d1 o1 a1 b1 x2 d2 o2 a2 b2 x3 d3 o3 a3 b3 (pageAfter narrow (txs.take i)) (pageAfter wide (txs.take i)) (pageAfter 0 (txs.take i)) r1 v1 k1 r2 v2 k2 r3 v3 k3 own ∧
    RowsAre v1 (pageAfter narrow (txs.take i)).1 ∧ RowsAre v2 (pageAfter wide (txs.take i)).1 ∧ RowsAre v3 (pageAfter 0 (txs.take i)).1 ∧ Keeps [] [Str.ofString "text", Str.ofString "ends"] m₀ m
theorem PgJ.elim {P : Params} {x1 d1 o1 : Addr} {a1 b1 : Tok} {x2 d2 o2 : Addr} {a2 b2 : Tok} {x3 d3 o3 : Addr} {a3 b3 : Tok} {own : Ledger} {narrow wide : Nat} {txs : List (List Nat × Bool)} {m₀ : Str → Option Value} {i : Nat} {m : Str → Option Value} {C : Ledger → Prop}
    (H : ∀ r1 v1 k1 r2 v2 k2 r3 v3 k3, RowsAre v1 (pageAfter narrow (txs.take i)).1 → RowsAre v2 (pageAfter wide (txs.take i)).1 → RowsAre v3 (pageAfter 0 (txs.take i)).1 → Keeps [] [Str.ofString "text", Str.ofString "ends"] m₀ m →
      C (PL3 P x1 d1 o1 a1 b1 x2 d2 o2 a2 b2 x3 d3 o3 a3 b3 (pageAfter narrow (txs.take i)) (pageAfter wide (txs.take i)) (pageAfter 0 (txs.take i)) r1 v1 k1 r2 v2 k2 r3 v3 k3 own)) : ∀ nx, PgJ P x1 d1 o1 a1 b1 x2 d2 o2 a2 b2 x3 d3 o3 a3 b3 own narrow wide txs m₀ i m nx → C nx := by
  intro nx h
  obtain ⟨r1, v1, k1, r2, v2, k2, r3, v3, k3, rfl, a, b, c, d⟩ := h
  exact H r1 v1 k1 r2 v2 k2 r3 v3 k3 a b c d
theorem PgJ.zero {P : Params} {x1 d1 o1 : Addr} {a1 b1 : Tok} {x2 d2 o2 : Addr} {a2 b2 : Tok} {x3 d3 o3 : Addr} {a3 b3 : Tok} {own : Ledger} {narrow wide : Nat} {txs : List (List Nat × Bool)} {m₀ : Str → Option Value} (c1 c2 c3 : Tok) :
    PgJ P x1 d1 o1 a1 b1 x2 d2 o2 a2 b2 x3 d3 o3 a3 b3 own narrow wide txs m₀ 0 m₀ (PL3 P x1 d1 o1 a1 b1 x2 d2 o2 a2 b2 x3 d3 o3 a3 b3 ([], []) ([], []) ([], []) c1 [] 0 c2 [] 0 c3 [] 0 own) :=
  ⟨_, _, _, _, _, _, _, _, _, rfl, RowsAre.nil, RowsAre.nil, RowsAre.nil, ⟨fun q hq => (nomatch hq), fun z _ _ => rfl⟩⟩
theorem sub3a {x d o : Addr} {l : List Addr} : ∀ z ∈ [x, d, o], z ∈ x :: d :: o :: l := by
  intro z hz
  simp only [List.mem_cons, List.not_mem_nil, or_false] at hz ⊢
  rcases hz with h | h | h <;> simp [h]
theorem sub3s {a : Addr} {l l' : List Addr} (h : ∀ z ∈ l, z ∈ l') : ∀ z ∈ l, z ∈ a :: l' := fun z hz => .tail _ (h z hz)
theorem keeps_none {y y2 : Str} {b c : Option Value} {u m₀ : Str → Option Value} {z : Str} (hs : [y2, y].contains z = false) :
    (if z = y then b else if z = y2 then c else kstB (fun z => if [y2, y].contains z = true then u z else m₀ z) [] z) = m₀ z := by
  have h2 : z ≠ y := fun h => by subst h; simp at hs
  have h3 : z ≠ y2 := fun h => by subst h; simp at hs
  rw [if_neg h2, if_neg h3]
  show (if [y2, y].contains z = true then u z else m₀ z) = m₀ z
  rw [hs]; rfl
theorem pg_end {P : Params} {h₀ : Heap} {L : Addr} {x1 d1 o1 x2 d2 o2 x3 d3 o3 lt : Addr} {a1 b1 a2 b2 a3 b3 r1 r2 r3 q1 q2 q3 : Tok} {k1 k2 k3 nt narrow wide : Nat} {v1 v2 v3 tvs : List Value} {own own9 : Ledger} {txs : List (List Nat × Bool)} {i : Nat} {h' : Heap} {m' m₀ : Str → Option Value} {s₁ : Shared} {tk : Nat} {ta tb : Addr × Obj} {C1 C2 C3 : List (List Nat)} {D1 D2 D3 : List Nat}
    (F : Fr h₀ L h' m') (N : News h₀ L h' (ta :: tb :: PL P x3 d3 o3 a3 b3 D3 r3 v3 k3 (PL P x2 d2 o2 a2 b2 D2 r2 v2 k2 (PL P x1 d1 o1 a1 b1 D1 r1 v1 k1 (own ++ own9)))))
    (e1 : pageAfter narrow (txs.take (i + 1)) = (C1, D1)) (e2 : pageAfter wide (txs.take (i + 1)) = (C2, D2)) (e3 : pageAfter 0 (txs.take (i + 1)) = (C3, D3)) (hv1 : RowsAre v1 C1) (hv2 : RowsAre v2 C2) (hv3 : RowsAre v3 C3) (hl : (lt, W.listOf tvs.toArray nt) ∈ own)
    (hk : ∀ z, [Str.ofString "text", Str.ofString "ends"].contains z = false → m' z = m₀ z) :
    NextN h₀ L (fun m' nx => (lt, W.listOf tvs.toArray nt) ∈ nx ∧ PgJ P x1 d1 o1 a1 b1 x2 d2 o2 a2 b2 x3 d3 o3 a3 b3 own narrow wide txs m₀ (i + 1) m' nx) own9
      ((PL3 P x1 d1 o1 a1 b1 x2 d2 o2 a2 b2 x3 d3 o3 a3 b3 ([], []) ([], []) ([], []) q1 [] 0 q2 [] 0 q3 [] 0 own).map (·.1)) s₁ .next { s₁ with heap := h', toks := tk } := by
  refine ⟨rfl, InvEndN.intro (nx := PL3 P x1 d1 o1 a1 b1 x2 d2 o2 a2 b2 x3 d3 o3 a3 b3 (C1, D1) (C2, D2) (C3, D3) r1 v1 k1 r2 v2 k2 r3 v3 k3 own) F N ⟨?_, r1, v1, k1, r2, v2, k2, r3, v3, k3, ?_, ?_, ?_, ?_, ⟨fun q hq => (nomatch hq), fun z _ h => hk z h⟩⟩ rfl ?_ ?_⟩
  · exact .tail _ (.tail _ (.tail _ (.tail _ (.tail _ (.tail _ (.tail _ (.tail _ (.tail _ hl))))))))
  · rw [e1, e2, e3]
  · rw [e1]; exact hv1
  · rw [e2]; exact hv2
  · rw [e3]; exact hv3
  · (show ∀ q ∈ (_ :: _ :: _ :: _ :: _ :: _ :: _ :: _ :: _ :: own), q ∈ _)
    (repeat' (first | (intro q hq; (repeat' (first | exact List.mem_append_left _ hq | refine List.mem_cons_of_mem _ ?_)); done) | refine subC (by k_mem) ?_))
  · intro p hp
    repeat' (first | exact List.mem_append_right _ hp | refine List.mem_cons_of_mem _ ?_)
theorem turn_page {txs : List (List Nat × Bool)} {i : Nat} {x : List Nat} {e : Bool} (hxi : txs[i]? = some (x, e)) (h20 : txs.length ≤ 20) (htx : ∀ t ∈ txs, t.1.length ≤ 8) (w9 : Nat) :
    ∃ A B, pageAfter w9 (txs.take i) = (A, B) ∧ ∃ C D, written w9 (A, B) x e = (C, D) ∧ pageAfter w9 (txs.take (i + 1)) = (C, D) ∧ (A.length ≤ 200 ∧ B.length ≤ 160) ∧ C.length ≤ 200 ∧ D.length ≤ 160 := by
  have hi := (List.getElem?_eq_some_iff.mp hxi).1
  have h1 := pageAfter_grow (w := w9) (txs.take i) (fun t ht => htx t (List.mem_of_mem_take ht))
  have h2 := pageAfter_grow (w := w9) (txs.take (i + 1)) (fun t ht => htx t (List.mem_of_mem_take ht))
  have e1 : pageAfter w9 (txs.take (i + 1)) = written w9 (pageAfter w9 (txs.take i)) x e := by rw [take_snoc hxi, pageAfter_snoc]
  rw [List.length_take] at h1 h2
  generalize pageAfter w9 (txs.take i) = P at *
  generalize pageAfter w9 (txs.take (i + 1)) = R at *
  obtain ⟨A, B⟩ := P
  obtain ⟨C, D⟩ := R
  exact ⟨A, B, rfl, C, D, e1.symm, rfl, ⟨by simp only at h1; (first | lia | omega), by simp only at h1; (first | lia | omega)⟩, by simp only at h2; (first | lia | omega), by simp only at h2; (first | lia | omega)⟩
theorem turn_page_k {G : Prop} {txs : List (List Nat × Bool)} {i : Nat} {x : List Nat} {e : Bool} (hxi : txs[i]? = some (x, e)) (h20 : txs.length ≤ 20) (htx : ∀ t ∈ txs, t.1.length ≤ 8) (w9 : Nat)
    (H : ∀ A B, pageAfter w9 (txs.take i) = (A, B) → ∀ C D, written w9 (A, B) x e = (C, D) → pageAfter w9 (txs.take (i + 1)) = (C, D) → (A.length ≤ 200 ∧ B.length ≤ 160) → C.length ≤ 200 ∧ D.length ≤ 160 → G) : G := by
  obtain ⟨A, B, p, C, D, q, e, h, g⟩ := turn_page hxi h20 htx w9
  exact H A B p C D q e h g
theorem flat_size {txs : List (List Nat × Bool)} (htx : ∀ t ∈ txs, t.1.length ≤ 8) : (txs.map Prod.fst).flatten.length ≤ 8 * txs.length := by
  induction txs with
  | nil => exact Nat.le_refl _
  | cons t txs ih =>
    have h1 := htx t (.head _)
    have h2 := ih (fun u hu => htx u (.tail _ hu))
    simp only [List.map_cons, List.flatten_cons, List.length_append, List.length_cons]
    (first | lia | omega)
theorem end_page {txs : List (List Nat × Bool)} (htx : ∀ t ∈ txs, t.1.length ≤ 8) (h20 : txs.length ≤ 20) (w9 : Nat) :
    ∃ A B, pageAfter w9 txs = (A, B) ∧ (A.length ≤ 200 ∧ B.length ≤ 160) ∧ SameT (allRows (A, B)).flatten (txs.map Prod.fst).flatten ∧ (allRows (A, B)).flatten.length ≤ 100000 := by
  have h3 := flat_size htx
  have h4 : (allRows (pageAfter w9 txs)).flatten.length ≤ 100000 := by rw [pageAfter_flat]; (first | lia | omega)
  have h1 := pageAfter_grow (w := w9) txs htx
  have h2 : SameT (allRows (pageAfter w9 txs)).flatten (txs.map Prod.fst).flatten := pageAfter_flat w9 txs
  generalize pageAfter w9 txs = P at *
  obtain ⟨A, B⟩ := P
  exact ⟨A, B, rfl, ⟨by simp only at h1; (first | lia | omega), by simp only at h1; (first | lia | omega)⟩, h2, h4⟩
theorem end_page_k {G : Prop} {txs : List (List Nat × Bool)} (htx : ∀ t ∈ txs, t.1.length ≤ 8) (h20 : txs.length ≤ 20) (w9 : Nat)
    (H : ∀ A B, pageAfter w9 txs = (A, B) → (A.length ≤ 200 ∧ B.length ≤ 160) → SameT (allRows (A, B)).flatten (txs.map Prod.fst).flatten → (allRows (A, B)).flatten.length ≤ 100000 → G) : G := by
  obtain ⟨A, B, p, h, g, f⟩ := end_page htx h20 w9
  exact H A B p h g f
theorem end_page_some {txs : List (List Nat × Bool)} (h3 : 0 < txs.length) (hty : ∀ t ∈ txs, t.1 ≠ []) {w9 : Nat} {A : List (List Nat)} {B : List Nat} (h : pageAfter w9 txs = (A, B)) : 0 < (allRows (A, B)).length := by
  rw [← h]
  refine allRows_some ?_
  rw [pageAfter_flat]
  cases txs with
  | nil => exact absurd h3 (Nat.lt_irrefl _)
  | cons t txs =>
    intro e
    simp only [List.map_cons, List.flatten_cons, List.append_eq_nil_iff] at e
    exact hty t (.head _) e.1
theorem end_page_within {txs : List (List Nat × Bool)} {w9 : Nat} (hw : 0 < w9) {A : List (List Nat)} {B : List Nat} (h : pageAfter w9 txs = (A, B)) : ∀ r ∈ allRows (A, B), w9 = 0 ∨ r.length ≤ w9 := by
  rw [← h]
  exact fun r hr => .inr (allRows_within (pageAfter_within hw txs) r hr)
theorem pages_far {txs : List (List Nat × Bool)} {narrow wide : Nat} (hn : 1 ≤ narrow) (hw : narrow < wide) {i : Nat} {x : List Nat} {e : Bool} (hxi : txs[i]? = some (x, e)) (hty : ∀ t ∈ txs, t.1 ≠ []) :
    (pageAfter wide (txs.take (i + 1))).1.length < (pageAfter narrow (txs.take (i + 1))).1.length ∨ ((pageAfter wide (txs.take (i + 1))).1.length = (pageAfter narrow (txs.take (i + 1))).1.length ∧ (pageAfter wide (txs.take (i + 1))).2.length ≤ (pageAfter narrow (txs.take (i + 1))).2.length) := 
  pageAfter_notFarther hn hw (txs.take (i + 1)) (fun t ht => hty t (List.mem_of_mem_take ht))
section
variable {prog : Program} {w : World} {p : Program} {loose : List Str} {mean : ExcName → Option Value} {mg mb : Str → Option Value}
theorem written_K (pg dx o : Addr) (t1 t2 tr : Tok) (row : List Nat) (rows : List (List Nat)) (vs : List Value) (k : Nat) (own : Ledger) (h1 : @Ne Nat pg dx) (h2 : @Ne Nat pg o) (h3 : @Ne Nat dx o) (ho : OwnOff own [pg, dx, o]) (hv : RowsAre vs rows) (hsz : rows.length ≤ 10000) (hr : row.length ≤ 10000) (text : List Nat) (ends : Bool) (width : Nat) (te tw : Tok) (hx : text.length ≤ 300) (hw : width ≤ 1000) (hsz2 : rows.length ≤ 8000) (hr2 : row.length ≤ 8000) (C : List (List Nat)) (D : List Nat) (hq : written width (rows, row) text ends = (C, D)) :
  Ctr prog w p loose mean mg mb 149 7 [.ref pg, .str (T text) te, .bool ends, .int (width : Int) tw]
    (PL w.params pg dx o t1 t2 row tr vs k own)
    (fun v news' => v = .bool true ∧ ∃ (tr' : Tok) (vs' : List Value) (k' : Nat), news' = PL w.params pg dx o t1 t2 D tr' vs' k' own ∧ RowsAre vs' C) := by
  have h := written_ok (prog := prog) (w := w) (p := p) (loose := loose) (mean := mean) (mg := mg) (mb := mb) pg dx o t1 t2 tr row rows vs k own h1 h2 h3 ho hv hsz hr text ends width te tw hx hw hsz2 hr2
  rw [hq] at h
  exact h
theorem pages_ok (lt : Addr) (tvs : List Value) (nt : Nat) (txs : List (List Nat × Bool)) (narrow wide : Nat) (tn tw : Tok) (own : Ledger) (hl : (lt, W.listOf tvs.toArray nt) ∈ own) (hts : TextsIn own tvs txs) (hn : 1 ≤ narrow) (hw : narrow < wide) (hw2 : wide ≤ 1000) (hts2 : txs.length ≤ 20) (hts3 : 0 < txs.length)
    (htx : ∀ t ∈ txs, t.1.length ≤ 8) (hty : ∀ t ∈ txs, t.1 ≠ []) :
  Ctr prog w p loose mean mg mb 159 9 [.ref lt, .int (narrow : Int) tn, .int (wide : Int) tw] own
    (fun v news' => v = .bool true ∧ news' = own) := by
  have hlen := hts.len
  refine Ctr.of ?_
  intro dp un gd cn cs a ccd cl outer A₀ base h₀ L m hp gn dr tk0 os0 Q E B F X N Tp hk hdp hun hret
  (try dsimp only [PL] at N hret)
  w_on
  k_with_none
  k_with "call builtin:list.append" =>
    (k_here; (show wpAny _ _ (call (Value.builtin "list.append") [Value.ref _, _]) _ _ _); k_dflt (refine' append_K ?y1k1 ?y1k2 ?y1k3 ?_ ?y1z; (case y1k1 => k_asm); (case y1k2 => k_asm); (case y1k3 => k_upd); (case y1z => first | size_fits | (simp only [List.size_toArray, sizeLine_eq]; (first | lia | omega))); k_whole); intro h' F' N'; (try k_sweep))
  k_with "call builtin:len" =>
    ((with_reducible show wpAny _ _ (call (Value.builtin "len") [Value.str _ _]) _ _ _); (refine' len_X ?y2kx ?y2kz ?_; (case y2kx => first | exact rfl | exact T_nil | exact T_blank); (case y2kz => first | (first | lia | omega) | ((try simp only [List.length_append, List.length_replicate, List.length_nil, List.length_cons, List.length_take, List.length_drop]); (first | lia | omega))); k_whole))
  k_with "binaryOp Add str str" =>
    ((with_reducible show wpAny _ _ (binaryOp Operator.Add (Value.str _ _) (Value.str _ _)) _ _ _); (refine' add_X ?y3kx ?y3ky ?y3kz ?_; (case y3kx => first | exact rfl | exact T_nil | exact T_blank); (case y3ky => first | exact rfl | exact T_nil | exact T_blank); (case y3kz => first | (first | lia | omega) | ((try simp only [List.length_append, List.length_replicate, List.length_nil, List.length_cons, List.length_take, List.length_drop]); (first | lia | omega))); k_whole); intro _ _)
  k_with "compareOp Eq str str" =>
    ((with_reducible show wpAny _ _ (compareOp CmpOp.Eq (Value.str (T _) _) (Value.str _ _)) _ _ _); (refine' eq_X ?y4kx ?y4ky ?_; (case y4kx => first | exact rfl | exact T_nil | exact T_blank); (case y4ky => first | exact rfl | exact T_nil | exact T_blank); k_whole))
  k_with "compareOp Eq str str" =>
    ((with_reducible show wpAny _ _ (compareOp CmpOp.Eq (Value.str _ _) (Value.str (T _) _)) _ _ _); (refine' eq_X ?y5kx ?y5ky ?_; (case y5kx => first | exact rfl | exact T_nil | exact T_blank); (case y5ky => first | exact rfl | exact T_nil | exact T_blank); k_whole))
  k_with "compareOp NotEq str str" =>
    ((with_reducible show wpAny _ _ (compareOp CmpOp.NotEq (Value.str (T _) _) (Value.str _ _)) _ _ _); (refine' ne_X ?y6kx ?y6ky ?_; (case y6kx => first | exact rfl | exact T_nil | exact T_blank); (case y6ky => first | exact rfl | exact T_nil | exact T_blank); k_whole))
  k_with "compareOp NotEq str str" =>
    ((with_reducible show wpAny _ _ (compareOp CmpOp.NotEq (Value.str _ _) (Value.str (T _) _)) _ _ _); (refine' ne_X ?y7kx ?y7ky ?_; (case y7kx => first | exact rfl | exact T_nil | exact T_blank); (case y7ky => first | exact rfl | exact T_nil | exact T_blank); k_whole))
  k_with "binaryOp Mult str int" =>
    ((with_reducible show wpAny _ _ (binaryOp Operator.Mult (Value.str _ _) (Value.int _ _)) _ _ _); (refine' mul_X ?y8kx ?y8k0 ?y8kn ?_; (case y8kx => first | exact rfl | exact T_blank); (case y8k0 => first | (first | lia | omega) | (simp only [List.length_nil]; (first | lia | omega))); (case y8kn => first | (first | lia | omega) | (simp only [List.length_nil]; (first | lia | omega))); k_whole); intro _ _)
  k_with "subscriptTail Name Slice str ref" =>
    ((with_reducible show wpAny _ _ (subscriptTail _ (PySem.Expr.Slice none (some _) none _) (Value.str (T _) _) _) _ _ _); (with_reducible rename Fr _ _ _ _ => F'); (with_reducible rename News _ _ _ _ => N'); (refine' take_T (s := ⟨_, _, _, _, _⟩) ?y9k0 ?y9k1 ?y9kz F' N' ?_ ?y9ks ?y9kt; (case y9k0 => (first | lia | omega)); (case y9k1 => (first | lia | omega)); (case y9kz => (first | lia | omega)); (case y9ks => with_unfolding_all rfl); (case y9kt => intro _; with_unfolding_all rfl); k_whole); intro h' _ _ F' N')
  k_with "subscriptTail Name Slice str ref" =>
    ((with_reducible show wpAny _ _ (subscriptTail _ (PySem.Expr.Slice (some _) none none _) (Value.str (T _) _) _) _ _ _); (with_reducible rename Fr _ _ _ _ => F'); (with_reducible rename News _ _ _ _ => N'); (refine' drop_T (s := ⟨_, _, _, _, _⟩) ?y10k0 ?y10k1 ?y10kz F' N' ?_ ?y10ks ?y10kt; (case y10k0 => (first | lia | omega)); (case y10k1 => (first | lia | omega)); (case y10kz => (first | lia | omega)); (case y10ks => with_unfolding_all rfl); (case y10kt => intro _; with_unfolding_all rfl); k_whole); intro h' _ _ F' N')
  k_with "call ref" =>
    k_dflt (k_extra "my call")
  k_with "exec While" =>
    k_dflt (k_extra "my while")
  k_with "exec For" =>
    k_dflt (k_extra "my for")
  k_with "pyIter ref" =>
    k_dflt (k_extra "my iter")
  k_with "subscriptTail Name Constant ref int" =>
    k_dflt (k_extra "my item")
  k_with "binaryOp Add ref ref" =>
    (k_here; (show wpAny _ _ (binaryOp Operator.Add (Value.ref _) (Value.ref _)) _ _ _); k_dflt (refine' add_L ?y16k1 ?y16k2 ?y16k3 ?y16k4 ?_ ?y16z; (case y16k1 => k_asm); (case y16k2 => k_asm); (case y16k3 => k_mem); (case y16k4 => k_mem); (case y16z => first | (first | lia | omega) | (simp only [List.length_cons, List.length_nil, List.length_append]; (first | lia | omega))); k_whole); intro c9 h9 F9 N9 l9; (have lA := allLt_of l9); (try k_lt l9); (try dsimp only [List.append_nil, List.nil_append, List.cons_append] at N9); (try k_sweep))
  k_with "subscriptTail Constant" =>
    ((with_reducible show wpAny _ _ (subscriptTail _ (PySem.Expr.Slice (some _) (some _) none _) (Value.str (Str.ofString "abcdefghijklmnopqrst") _) _) _ _ _); (with_reducible rename Fr _ _ _ _ => F'); (with_reducible rename News _ _ _ _ => N'); (refine' cut_X (s := ⟨_, _, _, _, _⟩) alpha_T ?y17k0 ?y17k1 ?y17k2 ?y17kz F' N' ?_ ?y17ks ?y17kt; (case y17k0 => (first | lia | omega)); (case y17k1 => (first | lia | omega)); (case y17k2 => rw [List.length_range']; (first | lia | omega)); (case y17kz => rw [List.length_range']; decide); (case y17ks => with_unfolding_all rfl); (case y17kt => intro _; with_unfolding_all rfl); k_whole); intro h' _ _ F' N')
  k_with "subscriptTail Attribute" =>
    k_dflt (k_extra "my item2")
  k_with "call builtin:len" =>
    (k_here; (with_reducible show wpAny _ _ (call (Value.builtin "len") [Value.ref _]) _ _ _); k_dflt (refine' len_L ?y19k1 ?y19k2 ?y19z ?_; (case y19k1 => k_asm); (case y19k2 => first | k_mem | ((repeat' (first | assumption | refine List.mem_cons_of_mem _ ?_)); done)); (case y19z => first | (first | lia | omega) | ((try simp only [List.length_append, List.length_nil, List.length_cons]); (first | lia | omega))); k_whole))
  k_with "subscriptTail Attribute BinOp ref int" =>
    k_dflt (k_extra "my item2")
  k_with "eval ListComp" =>
    k_dflt (k_extra "my comp")
  k_with "CompSrc" =>
    k_dflt (k_extra "my src")
  k_with "CompSrcT" =>
    k_dflt (k_extra "my srcT")
  k_with "SrcLP" =>
    k_dflt (k_extra "my srcP")
  k_with "CompEnd" =>
    k_dflt (k_extra "my end")
  k_with "call builtin:str.join" =>
    (k_here; (show wpAny _ _ (call (Value.builtin "str.join") [Value.str _ _, Value.ref _]) _ _ _); k_dflt (refine' join_X T_nil ?y26k1 ?y26k2 ?y26k3 ?y26z ?_; (case y26k1 => k_asm); (case y26k2 => k_mem); (case y26k3 => assumption); (case y26z => first | (first | lia | omega) | ((try simp only [List.length_append, List.length_nil, List.length_cons]); (first | lia | omega))); k_whole); intro _ _)
  k_with "call builtin:max" =>
    (k_here; (show wpAny _ _ (call (Value.builtin "max") [Value.ref _]) _ _ _); k_dflt (refine' max_X ?y27k0 ?y27k1 ?y27k2 ?y27k3 ?y27k4 ?y27z ?_; (case y27k0 => rfl); (case y27k1 => k_asm); (case y27k2 => k_asm); (case y27k3 => k_mem); (case y27k4 => assumption); (case y27z => first | (first | lia | omega) | ((try simp only [List.length_map, List.length_append, List.length_nil, List.length_cons]); (first | lia | omega))); k_whole); intro h9 M9 t9 tk9 F9 N9 hM1 hM2; (try k_sweep))
  k_with "call builtin:min" =>
    (k_here; (show wpAny _ _ (call (Value.builtin "min") [Value.ref _]) _ _ _); k_dflt (refine' min_X ?y28k0 ?y28k1 ?y28k2 ?y28k3 ?y28k4 ?y28z ?_; (case y28k0 => rfl); (case y28k1 => k_asm); (case y28k2 => k_asm); (case y28k3 => k_mem); (case y28k4 => assumption); (case y28z => first | (first | lia | omega) | ((try simp only [List.length_map, List.length_append, List.length_nil, List.length_cons]); (first | lia | omega))); k_whole); intro h9 M9 t9 tk9 F9 N9 hM1 hM2; (try k_sweep))
  k_with "compareOp NotEq str str" =>
    ((with_reducible show wpAny _ _ (compareOp CmpOp.NotEq (Value.str (T _) _) (Value.str (T _) _)) _ _ _); (refine' ne_K ?y29kx ?y29ky ?y29ks ?_; (case y29kx => exact rfl); (case y29ky => exact rfl); (case y29ks => assumption); k_whole))
  k_with "assign Tuple" =>
    k_dflt (k_extra "my assign")
  k_with "SelSrc" =>
    k_dflt (k_extra "my sel")
  k_with "compareOp Gt ref ref" =>
    (k_here; (with_reducible show wpAny _ _ (compareOp CmpOp.Gt (Value.ref _) (Value.ref _)) _ _ _); k_dflt (refine' gt_pair ?y33k1 ?y33k2 ?y33k3 ?y33k4 ?_; (case y33k1 => (first | exact roomU (by with_reducible assumption) (by rfl) | exact roomU (by assumption) (by rfl) | ktr_units | ((dsimp only [ak]); ktr_units))); (case y33k2 => k_asm); (case y33k3 => k_mem); (case y33k4 => k_mem); k_whole))
  k_with "subscriptTail Name Slice ref ref" =>
    (k_here; (with_reducible show wpAny _ _ (subscriptTail _ (PySem.Expr.Slice _ _ none _) (Value.ref _) (Value.ref _)) _ _ _); k_dflt (refine' kmk_slice_ints ?y34F ?y34N ?y34l ?y34p ?y34q ?y34i ?y34m ?y34c ?_ ?y34s ?y34t ?y34z; (case y34F => k_asm); (case y34N => k_asm); (case y34l => exact News.isList (by k_asm) (by first | k_mem | (repeat' (first | assumption | refine List.mem_cons_of_mem _ ?_)))); (case y34p => kmk_part); (case y34q => kmk_part); (case y34i => assumption); (case y34m => exact kmk_run (by assumption) (by (first | lia | omega)) (by (first | lia | omega))); (case y34c => exact rfl); (case y34s => with_unfolding_all rfl); (case y34t => kmk_pure); (case y34z => first | assumption | kmk_size)); intro D' ws' h' F' N' l1 hI' hC' hL'; (try k_lt l1); (try k_sweep))
  k_with "execs nil" =>
    ((with_reducible show wpAny _ _ _ _ _ (Shared.mk _ _ _ (_ + 1) _)); (with_reducible refine toks_any ?_); intro tk9)
  k_with "execs cons" =>
    ((with_reducible show wpAny _ _ _ _ _ (Shared.mk _ _ _ (_ + 1) _)); (with_reducible refine toks_any ?_); intro tk9)
  k_with "k_ne" =>
    first | with_reducible assumption | exact Ne.symm (by with_reducible assumption) | exact Nat.ne_of_lt (by with_reducible assumption) | exact Nat.ne_of_gt (by with_reducible assumption) | exact neL0 (by with_reducible assumption) | exact neR0 (by with_reducible assumption) | exact neL1 (by with_reducible assumption) | exact neR1 (by with_reducible assumption) | exact neL2 (by with_reducible assumption) | exact neR2 (by with_reducible assumption) | exact neL3 (by with_reducible assumption) | exact neR3 (by with_reducible assumption) | exact neL4 (by with_reducible assumption) | exact neR4 (by with_reducible assumption) | exact neL5 (by with_reducible assumption) | exact neR5 (by with_reducible assumption) | exact neL6 (by with_reducible assumption) | exact neR6 (by with_reducible assumption) | exact neL7 (by with_reducible assumption) | exact neR7 (by with_reducible assumption) | exact neL8 (by with_reducible assumption) | exact neR8 (by with_reducible assumption) | exact neL9 (by with_reducible assumption) | exact neR9 (by with_reducible assumption) | exact neL10 (by with_reducible assumption) | exact neR10 (by with_reducible assumption) | exact neL11 (by with_reducible assumption) | exact neR11 (by with_reducible assumption) | exact neL12 (by with_reducible assumption) | exact neR12 (by with_reducible assumption) | exact neL13 (by with_reducible assumption) | exact neR13 (by with_reducible assumption) | exact neTL0 (by with_reducible assumption) (by with_reducible assumption) | exact neTR0 (by with_reducible assumption) (by with_reducible assumption) | exact neTL1 (by with_reducible assumption) (by with_reducible assumption) | exact neTR1 (by with_reducible assumption) (by with_reducible assumption) | exact neTL2 (by with_reducible assumption) (by with_reducible assumption) | exact neTR2 (by with_reducible assumption) (by with_reducible assumption) | exact neTL3 (by with_reducible assumption) (by with_reducible assumption) | exact neTR3 (by with_reducible assumption) (by with_reducible assumption) | exact neTL4 (by with_reducible assumption) (by with_reducible assumption) | exact neTR4 (by with_reducible assumption) (by with_reducible assumption) | exact neTL5 (by with_reducible assumption) (by with_reducible assumption) | exact neTR5 (by with_reducible assumption) (by with_reducible assumption) | exact neTL6 (by with_reducible assumption) (by with_reducible assumption) | exact neTR6 (by with_reducible assumption) (by with_reducible assumption) | exact neTL7 (by with_reducible assumption) (by with_reducible assumption) | exact neTR7 (by with_reducible assumption) (by with_reducible assumption) | exact neTL8 (by with_reducible assumption) (by with_reducible assumption) | exact neTR8 (by with_reducible assumption) (by with_reducible assumption) | exact neTL9 (by with_reducible assumption) (by with_reducible assumption) | exact neTR9 (by with_reducible assumption) (by with_reducible assumption) | exact neQ0 (by with_reducible assumption) | exact Ne.symm (neQ0 (by with_reducible assumption)) | exact neQ1 (by with_reducible assumption) | exact Ne.symm (neQ1 (by with_reducible assumption)) | exact neQ2 (by with_reducible assumption) | exact Ne.symm (neQ2 (by with_reducible assumption)) | exact neQ3 (by with_reducible assumption) | exact Ne.symm (neQ3 (by with_reducible assumption)) | exact neQ4 (by with_reducible assumption) | exact Ne.symm (neQ4 (by with_reducible assumption)) | exact neQ5 (by with_reducible assumption) | exact Ne.symm (neQ5 (by with_reducible assumption)) | exact neQ6 (by with_reducible assumption) | exact Ne.symm (neQ6 (by with_reducible assumption)) | exact neQ7 (by with_reducible assumption) | exact Ne.symm (neQ7 (by with_reducible assumption)) | exact neQ8 (by with_reducible assumption) | exact Ne.symm (neQ8 (by with_reducible assumption)) | exact neQ9 (by with_reducible assumption) | exact Ne.symm (neQ9 (by with_reducible assumption))
  k_with "my call" =>
    (show wpAny _ _ (call (Value.ref 54) []) _ _ _)
    (with_reducible rename News _ _ _ _ => kN)
    (with_unfolding_all refine Ctr.useN (page_new _) (by k_asm) (by k_asm) (by k_asm) kN (by k_asm) (by first | exact rfl | assumption) (by (first | exact roomL (by with_reducible assumption) (by rfl) | exact roomL (by assumption) (by rfl) | ktr_room | ((dsimp only [ak]); ktr_room))) (by (first | exact roomU (by with_reducible assumption) (by rfl) | exact roomU (by assumption) (by rfl) | ktr_units | ((dsimp only [ak]); ktr_units))) ?_)
    clear kN
    intro x1 d1 o1 a1 b1 c1 h9 tk9 lD1 lX1 lO1 F9 N9
    (have lB := lD1)
    (try simp only [AllLt, and_true] at lD1)
    (try simp only [AllLt, and_true] at lO1)
    (try dsimp only)
    (try k_sweep)
  k_with "my call" =>
    (show wpAny _ _ (call (Value.ref 54) []) _ _ _)
    (fail_if_success (fail_if_success (have := x1)))
    (with_reducible rename News _ _ _ _ => kN)
    (with_unfolding_all refine Ctr.useN (page_new _) (by k_asm) (by k_asm) (by k_asm) kN (by k_asm) (by first | exact rfl | assumption) (by (first | exact roomL (by with_reducible assumption) (by rfl) | exact roomL (by assumption) (by rfl) | ktr_room | ((dsimp only [ak]); ktr_room))) (by (first | exact roomU (by with_reducible assumption) (by rfl) | exact roomU (by assumption) (by rfl) | ktr_units | ((dsimp only [ak]); ktr_units))) ?_)
    clear kN
    intro x2 d2 o2 a2 b2 c2 h9 tk9 lD2 lX2 lO2 F9 N9
    (have lB := lD2)
    (try simp only [AllLt, and_true] at lD2)
    (try simp only [AllLt, and_true] at lO2)
    (try dsimp only)
    (try k_sweep)
  k_with "my call" =>
    (show wpAny _ _ (call (Value.ref 54) []) _ _ _)
    (fail_if_success (fail_if_success (have := x2)))
    (with_reducible rename News _ _ _ _ => kN)
    (with_unfolding_all refine Ctr.useN (page_new _) (by k_asm) (by k_asm) (by k_asm) kN (by k_asm) (by first | exact rfl | assumption) (by (first | exact roomL (by with_reducible assumption) (by rfl) | exact roomL (by assumption) (by rfl) | ktr_room | ((dsimp only [ak]); ktr_room))) (by (first | exact roomU (by with_reducible assumption) (by rfl) | exact roomU (by assumption) (by rfl) | ktr_units | ((dsimp only [ak]); ktr_units))) ?_)
    clear kN
    intro x3 d3 o3 a3 b3 c3 h9 tk9 lD3 lX3 lO3 F9 N9
    (have lB := lD3)
    (try simp only [AllLt, and_true] at lD3)
    (try simp only [AllLt, and_true] at lO3)
    (try dsimp only)
    (try k_sweep)
  k_with "my call" =>
    (with_reducible show wpAny _ _ (call (Value.ref 149) [Value.ref x1, _, _, _]) _ _ _)
    (with_reducible rename News _ _ _ _ => kN)
    (first
      | (with_unfolding_all refine Ctr.useP (written_K x1 d1 o1 _ _ _ _ _ _ _ _ (by first | assumption | k_ne) (by first | assumption | k_ne) (by first | assumption | k_ne) (by repeat' (first | assumption | (refine off_cons3 (by k_ne) (by k_ne) (by k_ne) ?_))) (by assumption) (by first | with_reducible assumption | exact Nat.le_trans (by with_reducible assumption) (by decide) | (first | lia | omega) | (simp only [List.length_append, List.length_cons, List.length_nil, List.length_replicate]; (first | lia | omega))) (by first | with_reducible assumption | exact Nat.le_trans (by with_reducible assumption) (by decide) | (first | lia | omega) | (simp only [List.length_append, List.length_cons, List.length_nil, List.length_replicate]; (first | lia | omega))) _ _ _ _ _ (by first | with_reducible assumption | exact Nat.le_trans (by with_reducible assumption) (by decide) | (first | lia | omega) | (simp only [List.length_append, List.length_cons, List.length_nil, List.length_replicate]; (first | lia | omega))) (by first | with_reducible assumption | exact Nat.le_trans (by with_reducible assumption) (by decide) | (first | lia | omega) | (simp only [List.length_append, List.length_cons, List.length_nil, List.length_replicate]; (first | lia | omega))) (by first | with_reducible assumption | exact Nat.le_trans (by with_reducible assumption) (by decide) | (first | lia | omega) | (simp only [List.length_append, List.length_cons, List.length_nil, List.length_replicate]; (first | lia | omega))) (by first | with_reducible assumption | exact Nat.le_trans (by with_reducible assumption) (by decide) | (first | lia | omega) | (simp only [List.length_append, List.length_cons, List.length_nil, List.length_replicate]; (first | lia | omega))) _ _ (by assumption)) (by k_asm) (by k_asm) (by k_asm) (rot [] kN) (by k_asm) (by first | exact rfl | assumption) (by (first | exact roomL (by with_reducible assumption) (by rfl) | exact roomL (by assumption) (by rfl) | ktr_room | ((dsimp only [ak]); ktr_room))) (by (first | exact roomU (by with_reducible assumption) (by rfl) | exact roomU (by assumption) (by rfl) | ktr_units | ((dsimp only [ak]); ktr_units))) ?_))
    clear kN
    intro tr9 vs9 k9 h9 tk9 hv9 F9 N9
    (try dsimp only [PL, List.cons_append, List.nil_append] at N9)
    (try dsimp only)
    (have hlen9 := hv9.len)
    (try k_sweep)
  k_with "my call" =>
    (with_reducible show wpAny _ _ (call (Value.ref 149) [Value.ref x2, _, _, _]) _ _ _)
    (with_reducible rename News _ _ _ _ => kN)
    (first
      | (with_unfolding_all refine Ctr.useP (written_K x2 d2 o2 _ _ _ _ _ _ _ _ (by first | assumption | k_ne) (by first | assumption | k_ne) (by first | assumption | k_ne) (by repeat' (first | assumption | (refine off_cons3 (by k_ne) (by k_ne) (by k_ne) ?_))) (by assumption) (by first | with_reducible assumption | exact Nat.le_trans (by with_reducible assumption) (by decide) | (first | lia | omega) | (simp only [List.length_append, List.length_cons, List.length_nil, List.length_replicate]; (first | lia | omega))) (by first | with_reducible assumption | exact Nat.le_trans (by with_reducible assumption) (by decide) | (first | lia | omega) | (simp only [List.length_append, List.length_cons, List.length_nil, List.length_replicate]; (first | lia | omega))) _ _ _ _ _ (by first | with_reducible assumption | exact Nat.le_trans (by with_reducible assumption) (by decide) | (first | lia | omega) | (simp only [List.length_append, List.length_cons, List.length_nil, List.length_replicate]; (first | lia | omega))) (by first | with_reducible assumption | exact Nat.le_trans (by with_reducible assumption) (by decide) | (first | lia | omega) | (simp only [List.length_append, List.length_cons, List.length_nil, List.length_replicate]; (first | lia | omega))) (by first | with_reducible assumption | exact Nat.le_trans (by with_reducible assumption) (by decide) | (first | lia | omega) | (simp only [List.length_append, List.length_cons, List.length_nil, List.length_replicate]; (first | lia | omega))) (by first | with_reducible assumption | exact Nat.le_trans (by with_reducible assumption) (by decide) | (first | lia | omega) | (simp only [List.length_append, List.length_cons, List.length_nil, List.length_replicate]; (first | lia | omega))) _ _ (by assumption)) (by k_asm) (by k_asm) (by k_asm) (rot [_, _, _] kN) (by k_asm) (by first | exact rfl | assumption) (by (first | exact roomL (by with_reducible assumption) (by rfl) | exact roomL (by assumption) (by rfl) | ktr_room | ((dsimp only [ak]); ktr_room))) (by (first | exact roomU (by with_reducible assumption) (by rfl) | exact roomU (by assumption) (by rfl) | ktr_units | ((dsimp only [ak]); ktr_units))) ?_))
    clear kN
    intro tr9 vs9 k9 h9 tk9 hv9 F9 N9
    (try dsimp only [PL, List.cons_append, List.nil_append] at N9)
    (try dsimp only)
    (have hlen9 := hv9.len)
    (try k_sweep)
  k_with "my call" =>
    (with_reducible show wpAny _ _ (call (Value.ref 149) [Value.ref x3, _, _, _]) _ _ _)
    (with_reducible rename News _ _ _ _ => kN)
    (first
      | (with_unfolding_all refine Ctr.useP (written_K x3 d3 o3 _ _ _ _ _ _ _ _ (by first | assumption | k_ne) (by first | assumption | k_ne) (by first | assumption | k_ne) (by repeat' (first | assumption | (refine off_cons3 (by k_ne) (by k_ne) (by k_ne) ?_))) (by assumption) (by first | with_reducible assumption | exact Nat.le_trans (by with_reducible assumption) (by decide) | (first | lia | omega) | (simp only [List.length_append, List.length_cons, List.length_nil, List.length_replicate]; (first | lia | omega))) (by first | with_reducible assumption | exact Nat.le_trans (by with_reducible assumption) (by decide) | (first | lia | omega) | (simp only [List.length_append, List.length_cons, List.length_nil, List.length_replicate]; (first | lia | omega))) _ _ _ _ _ (by first | with_reducible assumption | exact Nat.le_trans (by with_reducible assumption) (by decide) | (first | lia | omega) | (simp only [List.length_append, List.length_cons, List.length_nil, List.length_replicate]; (first | lia | omega))) (by first | with_reducible assumption | exact Nat.le_trans (by with_reducible assumption) (by decide) | (first | lia | omega) | (simp only [List.length_append, List.length_cons, List.length_nil, List.length_replicate]; (first | lia | omega))) (by first | with_reducible assumption | exact Nat.le_trans (by with_reducible assumption) (by decide) | (first | lia | omega) | (simp only [List.length_append, List.length_cons, List.length_nil, List.length_replicate]; (first | lia | omega))) (by first | with_reducible assumption | exact Nat.le_trans (by with_reducible assumption) (by decide) | (first | lia | omega) | (simp only [List.length_append, List.length_cons, List.length_nil, List.length_replicate]; (first | lia | omega))) _ _ (by assumption)) (by k_asm) (by k_asm) (by k_asm) (rot [_, _, _, _, _, _] kN) (by k_asm) (by first | exact rfl | assumption) (by (first | exact roomL (by with_reducible assumption) (by rfl) | exact roomL (by assumption) (by rfl) | ktr_room | ((dsimp only [ak]); ktr_room))) (by (first | exact roomU (by with_reducible assumption) (by rfl) | exact roomU (by assumption) (by rfl) | ktr_units | ((dsimp only [ak]); ktr_units))) ?_))
    clear kN
    intro tr9 vs9 k9 h9 tk9 hv9 F9 N9
    (try dsimp only [PL, List.cons_append, List.nil_append] at N9)
    (try dsimp only)
    (have hlen9 := hv9.len)
    (try k_sweep)
  k_with "my call" =>
    (with_reducible show wpAny _ _ (call (Value.ref 154) [Value.ref x1, _, _]) _ _ _)
    (with_reducible rename News _ _ _ _ => kN)
    (first
      | (with_unfolding_all refine Ctr.useB (signs_ok x1 d1 o1 _ _ _ _ _ _ _ _ (by first | assumption | k_ne) (by first | assumption | k_ne) (by first | assumption | k_ne) (by repeat' (first | assumption | (refine off_cons3 (by k_ne) (by k_ne) (by k_ne) ?_))) (by assumption) (by first | with_reducible assumption | exact Nat.le_trans (by with_reducible assumption) (by decide) | (first | lia | omega) | (simp only [List.length_append, List.length_cons, List.length_nil, List.length_replicate]; (first | lia | omega))) (by first | with_reducible assumption | exact Nat.le_trans (by with_reducible assumption) (by decide) | (first | lia | omega) | (simp only [List.length_append, List.length_cons, List.length_nil, List.length_replicate]; (first | lia | omega))) lt _ _ txs _ _ (by (repeat' (first | assumption | refine List.mem_cons_of_mem _ ?_))) (hts.mono (by intro p hp; repeat' (first | exact hp | refine List.mem_cons_of_mem _ ?_))) (by first | with_reducible assumption | exact Nat.le_trans (by with_reducible assumption) (by decide) | (first | lia | omega) | (simp only [List.length_append, List.length_cons, List.length_nil, List.length_replicate]; (first | lia | omega))) (by first | with_reducible assumption | exact Nat.le_trans (by with_reducible assumption) (by decide) | (first | lia | omega) | (simp only [List.length_append, List.length_cons, List.length_nil, List.length_replicate]; (first | lia | omega))) (by assumption) (by assumption) (by assumption) (by assumption)) (by k_asm) (by k_asm) (by k_asm) (rot [] kN) (by k_asm) (by first | exact rfl | assumption) (by (first | exact roomL (by with_reducible assumption) (by rfl) | exact roomL (by assumption) (by rfl) | ktr_room | ((dsimp only [ak]); ktr_room))) (by (first | exact roomU (by with_reducible assumption) (by rfl) | exact roomU (by assumption) (by rfl) | ktr_units | ((dsimp only [ak]); ktr_units))) ?_)
      | (with_unfolding_all refine Ctr.useB (signs_ok x1 d1 o1 _ _ _ _ _ _ _ _ (by first | assumption | k_ne) (by first | assumption | k_ne) (by first | assumption | k_ne) (by repeat' (first | assumption | (refine off_cons3 (by k_ne) (by k_ne) (by k_ne) ?_))) (by assumption) (by first | with_reducible assumption | exact Nat.le_trans (by with_reducible assumption) (by decide) | (first | lia | omega) | (simp only [List.length_append, List.length_cons, List.length_nil, List.length_replicate]; (first | lia | omega))) (by first | with_reducible assumption | exact Nat.le_trans (by with_reducible assumption) (by decide) | (first | lia | omega) | (simp only [List.length_append, List.length_cons, List.length_nil, List.length_replicate]; (first | lia | omega))) lt _ _ txs _ _ (by (repeat' (first | assumption | refine List.mem_cons_of_mem _ ?_))) (hts.mono (by intro p hp; repeat' (first | exact hp | refine List.mem_cons_of_mem _ ?_))) (by first | with_reducible assumption | exact Nat.le_trans (by with_reducible assumption) (by decide) | (first | lia | omega) | (simp only [List.length_append, List.length_cons, List.length_nil, List.length_replicate]; (first | lia | omega))) (by first | with_reducible assumption | exact Nat.le_trans (by with_reducible assumption) (by decide) | (first | lia | omega) | (simp only [List.length_append, List.length_cons, List.length_nil, List.length_replicate]; (first | lia | omega))) (by assumption) (by assumption) (by assumption) (by assumption)) (by k_asm) (by k_asm) (by k_asm) (rot [_] kN) (by k_asm) (by first | exact rfl | assumption) (by (first | exact roomL (by with_reducible assumption) (by rfl) | exact roomL (by assumption) (by rfl) | ktr_room | ((dsimp only [ak]); ktr_room))) (by (first | exact roomU (by with_reducible assumption) (by rfl) | exact roomU (by assumption) (by rfl) | ktr_units | ((dsimp only [ak]); ktr_units))) ?_)
      | (with_unfolding_all refine Ctr.useB (signs_ok x1 d1 o1 _ _ _ _ _ _ _ _ (by first | assumption | k_ne) (by first | assumption | k_ne) (by first | assumption | k_ne) (by repeat' (first | assumption | (refine off_cons3 (by k_ne) (by k_ne) (by k_ne) ?_))) (by assumption) (by first | with_reducible assumption | exact Nat.le_trans (by with_reducible assumption) (by decide) | (first | lia | omega) | (simp only [List.length_append, List.length_cons, List.length_nil, List.length_replicate]; (first | lia | omega))) (by first | with_reducible assumption | exact Nat.le_trans (by with_reducible assumption) (by decide) | (first | lia | omega) | (simp only [List.length_append, List.length_cons, List.length_nil, List.length_replicate]; (first | lia | omega))) lt _ _ txs _ _ (by (repeat' (first | assumption | refine List.mem_cons_of_mem _ ?_))) (hts.mono (by intro p hp; repeat' (first | exact hp | refine List.mem_cons_of_mem _ ?_))) (by first | with_reducible assumption | exact Nat.le_trans (by with_reducible assumption) (by decide) | (first | lia | omega) | (simp only [List.length_append, List.length_cons, List.length_nil, List.length_replicate]; (first | lia | omega))) (by first | with_reducible assumption | exact Nat.le_trans (by with_reducible assumption) (by decide) | (first | lia | omega) | (simp only [List.length_append, List.length_cons, List.length_nil, List.length_replicate]; (first | lia | omega))) (by assumption) (by assumption) (by assumption) (by assumption)) (by k_asm) (by k_asm) (by k_asm) (rot [_, _] kN) (by k_asm) (by first | exact rfl | assumption) (by (first | exact roomL (by with_reducible assumption) (by rfl) | exact roomL (by assumption) (by rfl) | ktr_room | ((dsimp only [ak]); ktr_room))) (by (first | exact roomU (by with_reducible assumption) (by rfl) | exact roomU (by assumption) (by rfl) | ktr_units | ((dsimp only [ak]); ktr_units))) ?_)
      | (with_unfolding_all refine Ctr.useB (signs_ok x1 d1 o1 _ _ _ _ _ _ _ _ (by first | assumption | k_ne) (by first | assumption | k_ne) (by first | assumption | k_ne) (by repeat' (first | assumption | (refine off_cons3 (by k_ne) (by k_ne) (by k_ne) ?_))) (by assumption) (by first | with_reducible assumption | exact Nat.le_trans (by with_reducible assumption) (by decide) | (first | lia | omega) | (simp only [List.length_append, List.length_cons, List.length_nil, List.length_replicate]; (first | lia | omega))) (by first | with_reducible assumption | exact Nat.le_trans (by with_reducible assumption) (by decide) | (first | lia | omega) | (simp only [List.length_append, List.length_cons, List.length_nil, List.length_replicate]; (first | lia | omega))) lt _ _ txs _ _ (by (repeat' (first | assumption | refine List.mem_cons_of_mem _ ?_))) (hts.mono (by intro p hp; repeat' (first | exact hp | refine List.mem_cons_of_mem _ ?_))) (by first | with_reducible assumption | exact Nat.le_trans (by with_reducible assumption) (by decide) | (first | lia | omega) | (simp only [List.length_append, List.length_cons, List.length_nil, List.length_replicate]; (first | lia | omega))) (by first | with_reducible assumption | exact Nat.le_trans (by with_reducible assumption) (by decide) | (first | lia | omega) | (simp only [List.length_append, List.length_cons, List.length_nil, List.length_replicate]; (first | lia | omega))) (by assumption) (by assumption) (by assumption) (by assumption)) (by k_asm) (by k_asm) (by k_asm) (rot [_, _, _] kN) (by k_asm) (by first | exact rfl | assumption) (by (first | exact roomL (by with_reducible assumption) (by rfl) | exact roomL (by assumption) (by rfl) | ktr_room | ((dsimp only [ak]); ktr_room))) (by (first | exact roomU (by with_reducible assumption) (by rfl) | exact roomU (by assumption) (by rfl) | ktr_units | ((dsimp only [ak]); ktr_units))) ?_))
    clear kN
    intro h9 tk9 F9 N9
    (try dsimp only [PL, List.cons_append, List.nil_append] at N9)
    (try dsimp only)
    (try k_sweep)
  k_with "my call" =>
    (with_reducible show wpAny _ _ (call (Value.ref 154) [Value.ref x2, _, _]) _ _ _)
    (with_reducible rename News _ _ _ _ => kN)
    (first
      | (with_unfolding_all refine Ctr.useB (signs_ok x2 d2 o2 _ _ _ _ _ _ _ _ (by first | assumption | k_ne) (by first | assumption | k_ne) (by first | assumption | k_ne) (by repeat' (first | assumption | (refine off_cons3 (by k_ne) (by k_ne) (by k_ne) ?_))) (by assumption) (by first | with_reducible assumption | exact Nat.le_trans (by with_reducible assumption) (by decide) | (first | lia | omega) | (simp only [List.length_append, List.length_cons, List.length_nil, List.length_replicate]; (first | lia | omega))) (by first | with_reducible assumption | exact Nat.le_trans (by with_reducible assumption) (by decide) | (first | lia | omega) | (simp only [List.length_append, List.length_cons, List.length_nil, List.length_replicate]; (first | lia | omega))) lt _ _ txs _ _ (by (repeat' (first | assumption | refine List.mem_cons_of_mem _ ?_))) (hts.mono (by intro p hp; repeat' (first | exact hp | refine List.mem_cons_of_mem _ ?_))) (by first | with_reducible assumption | exact Nat.le_trans (by with_reducible assumption) (by decide) | (first | lia | omega) | (simp only [List.length_append, List.length_cons, List.length_nil, List.length_replicate]; (first | lia | omega))) (by first | with_reducible assumption | exact Nat.le_trans (by with_reducible assumption) (by decide) | (first | lia | omega) | (simp only [List.length_append, List.length_cons, List.length_nil, List.length_replicate]; (first | lia | omega))) (by assumption) (by assumption) (by assumption) (by assumption)) (by k_asm) (by k_asm) (by k_asm) (rot [_, _, _] kN) (by k_asm) (by first | exact rfl | assumption) (by (first | exact roomL (by with_reducible assumption) (by rfl) | exact roomL (by assumption) (by rfl) | ktr_room | ((dsimp only [ak]); ktr_room))) (by (first | exact roomU (by with_reducible assumption) (by rfl) | exact roomU (by assumption) (by rfl) | ktr_units | ((dsimp only [ak]); ktr_units))) ?_)
      | (with_unfolding_all refine Ctr.useB (signs_ok x2 d2 o2 _ _ _ _ _ _ _ _ (by first | assumption | k_ne) (by first | assumption | k_ne) (by first | assumption | k_ne) (by repeat' (first | assumption | (refine off_cons3 (by k_ne) (by k_ne) (by k_ne) ?_))) (by assumption) (by first | with_reducible assumption | exact Nat.le_trans (by with_reducible assumption) (by decide) | (first | lia | omega) | (simp only [List.length_append, List.length_cons, List.length_nil, List.length_replicate]; (first | lia | omega))) (by first | with_reducible assumption | exact Nat.le_trans (by with_reducible assumption) (by decide) | (first | lia | omega) | (simp only [List.length_append, List.length_cons, List.length_nil, List.length_replicate]; (first | lia | omega))) lt _ _ txs _ _ (by (repeat' (first | assumption | refine List.mem_cons_of_mem _ ?_))) (hts.mono (by intro p hp; repeat' (first | exact hp | refine List.mem_cons_of_mem _ ?_))) (by first | with_reducible assumption | exact Nat.le_trans (by with_reducible assumption) (by decide) | (first | lia | omega) | (simp only [List.length_append, List.length_cons, List.length_nil, List.length_replicate]; (first | lia | omega))) (by first | with_reducible assumption | exact Nat.le_trans (by with_reducible assumption) (by decide) | (first | lia | omega) | (simp only [List.length_append, List.length_cons, List.length_nil, List.length_replicate]; (first | lia | omega))) (by assumption) (by assumption) (by assumption) (by assumption)) (by k_asm) (by k_asm) (by k_asm) (rot [_, _, _, _] kN) (by k_asm) (by first | exact rfl | assumption) (by (first | exact roomL (by with_reducible assumption) (by rfl) | exact roomL (by assumption) (by rfl) | ktr_room | ((dsimp only [ak]); ktr_room))) (by (first | exact roomU (by with_reducible assumption) (by rfl) | exact roomU (by assumption) (by rfl) | ktr_units | ((dsimp only [ak]); ktr_units))) ?_)
      | (with_unfolding_all refine Ctr.useB (signs_ok x2 d2 o2 _ _ _ _ _ _ _ _ (by first | assumption | k_ne) (by first | assumption | k_ne) (by first | assumption | k_ne) (by repeat' (first | assumption | (refine off_cons3 (by k_ne) (by k_ne) (by k_ne) ?_))) (by assumption) (by first | with_reducible assumption | exact Nat.le_trans (by with_reducible assumption) (by decide) | (first | lia | omega) | (simp only [List.length_append, List.length_cons, List.length_nil, List.length_replicate]; (first | lia | omega))) (by first | with_reducible assumption | exact Nat.le_trans (by with_reducible assumption) (by decide) | (first | lia | omega) | (simp only [List.length_append, List.length_cons, List.length_nil, List.length_replicate]; (first | lia | omega))) lt _ _ txs _ _ (by (repeat' (first | assumption | refine List.mem_cons_of_mem _ ?_))) (hts.mono (by intro p hp; repeat' (first | exact hp | refine List.mem_cons_of_mem _ ?_))) (by first | with_reducible assumption | exact Nat.le_trans (by with_reducible assumption) (by decide) | (first | lia | omega) | (simp only [List.length_append, List.length_cons, List.length_nil, List.length_replicate]; (first | lia | omega))) (by first | with_reducible assumption | exact Nat.le_trans (by with_reducible assumption) (by decide) | (first | lia | omega) | (simp only [List.length_append, List.length_cons, List.length_nil, List.length_replicate]; (first | lia | omega))) (by assumption) (by assumption) (by assumption) (by assumption)) (by k_asm) (by k_asm) (by k_asm) (rot [_, _, _, _, _] kN) (by k_asm) (by first | exact rfl | assumption) (by (first | exact roomL (by with_reducible assumption) (by rfl) | exact roomL (by assumption) (by rfl) | ktr_room | ((dsimp only [ak]); ktr_room))) (by (first | exact roomU (by with_reducible assumption) (by rfl) | exact roomU (by assumption) (by rfl) | ktr_units | ((dsimp only [ak]); ktr_units))) ?_)
      | (with_unfolding_all refine Ctr.useB (signs_ok x2 d2 o2 _ _ _ _ _ _ _ _ (by first | assumption | k_ne) (by first | assumption | k_ne) (by first | assumption | k_ne) (by repeat' (first | assumption | (refine off_cons3 (by k_ne) (by k_ne) (by k_ne) ?_))) (by assumption) (by first | with_reducible assumption | exact Nat.le_trans (by with_reducible assumption) (by decide) | (first | lia | omega) | (simp only [List.length_append, List.length_cons, List.length_nil, List.length_replicate]; (first | lia | omega))) (by first | with_reducible assumption | exact Nat.le_trans (by with_reducible assumption) (by decide) | (first | lia | omega) | (simp only [List.length_append, List.length_cons, List.length_nil, List.length_replicate]; (first | lia | omega))) lt _ _ txs _ _ (by (repeat' (first | assumption | refine List.mem_cons_of_mem _ ?_))) (hts.mono (by intro p hp; repeat' (first | exact hp | refine List.mem_cons_of_mem _ ?_))) (by first | with_reducible assumption | exact Nat.le_trans (by with_reducible assumption) (by decide) | (first | lia | omega) | (simp only [List.length_append, List.length_cons, List.length_nil, List.length_replicate]; (first | lia | omega))) (by first | with_reducible assumption | exact Nat.le_trans (by with_reducible assumption) (by decide) | (first | lia | omega) | (simp only [List.length_append, List.length_cons, List.length_nil, List.length_replicate]; (first | lia | omega))) (by assumption) (by assumption) (by assumption) (by assumption)) (by k_asm) (by k_asm) (by k_asm) (rot [_, _, _, _, _, _] kN) (by k_asm) (by first | exact rfl | assumption) (by (first | exact roomL (by with_reducible assumption) (by rfl) | exact roomL (by assumption) (by rfl) | ktr_room | ((dsimp only [ak]); ktr_room))) (by (first | exact roomU (by with_reducible assumption) (by rfl) | exact roomU (by assumption) (by rfl) | ktr_units | ((dsimp only [ak]); ktr_units))) ?_))
    clear kN
    intro h9 tk9 F9 N9
    (try dsimp only [PL, List.cons_append, List.nil_append] at N9)
    (try dsimp only)
    (try k_sweep)
  k_with "my call" =>
    (with_reducible show wpAny _ _ (call (Value.ref 154) [Value.ref x3, _, _]) _ _ _)
    (with_reducible rename News _ _ _ _ => kN)
    (first
      | (with_unfolding_all refine Ctr.useB (signs_ok x3 d3 o3 _ _ _ _ _ _ _ _ (by first | assumption | k_ne) (by first | assumption | k_ne) (by first | assumption | k_ne) (by repeat' (first | assumption | (refine off_cons3 (by k_ne) (by k_ne) (by k_ne) ?_))) (by assumption) (by first | with_reducible assumption | exact Nat.le_trans (by with_reducible assumption) (by decide) | (first | lia | omega) | (simp only [List.length_append, List.length_cons, List.length_nil, List.length_replicate]; (first | lia | omega))) (by first | with_reducible assumption | exact Nat.le_trans (by with_reducible assumption) (by decide) | (first | lia | omega) | (simp only [List.length_append, List.length_cons, List.length_nil, List.length_replicate]; (first | lia | omega))) lt _ _ txs _ _ (by (repeat' (first | assumption | refine List.mem_cons_of_mem _ ?_))) (hts.mono (by intro p hp; repeat' (first | exact hp | refine List.mem_cons_of_mem _ ?_))) (by first | with_reducible assumption | exact Nat.le_trans (by with_reducible assumption) (by decide) | (first | lia | omega) | (simp only [List.length_append, List.length_cons, List.length_nil, List.length_replicate]; (first | lia | omega))) (by first | with_reducible assumption | exact Nat.le_trans (by with_reducible assumption) (by decide) | (first | lia | omega) | (simp only [List.length_append, List.length_cons, List.length_nil, List.length_replicate]; (first | lia | omega))) (by assumption) (by assumption) (by assumption) (by assumption)) (by k_asm) (by k_asm) (by k_asm) (rot [_, _, _, _, _, _] kN) (by k_asm) (by first | exact rfl | assumption) (by (first | exact roomL (by with_reducible assumption) (by rfl) | exact roomL (by assumption) (by rfl) | ktr_room | ((dsimp only [ak]); ktr_room))) (by (first | exact roomU (by with_reducible assumption) (by rfl) | exact roomU (by assumption) (by rfl) | ktr_units | ((dsimp only [ak]); ktr_units))) ?_)
      | (with_unfolding_all refine Ctr.useB (signs_ok x3 d3 o3 _ _ _ _ _ _ _ _ (by first | assumption | k_ne) (by first | assumption | k_ne) (by first | assumption | k_ne) (by repeat' (first | assumption | (refine off_cons3 (by k_ne) (by k_ne) (by k_ne) ?_))) (by assumption) (by first | with_reducible assumption | exact Nat.le_trans (by with_reducible assumption) (by decide) | (first | lia | omega) | (simp only [List.length_append, List.length_cons, List.length_nil, List.length_replicate]; (first | lia | omega))) (by first | with_reducible assumption | exact Nat.le_trans (by with_reducible assumption) (by decide) | (first | lia | omega) | (simp only [List.length_append, List.length_cons, List.length_nil, List.length_replicate]; (first | lia | omega))) lt _ _ txs _ _ (by (repeat' (first | assumption | refine List.mem_cons_of_mem _ ?_))) (hts.mono (by intro p hp; repeat' (first | exact hp | refine List.mem_cons_of_mem _ ?_))) (by first | with_reducible assumption | exact Nat.le_trans (by with_reducible assumption) (by decide) | (first | lia | omega) | (simp only [List.length_append, List.length_cons, List.length_nil, List.length_replicate]; (first | lia | omega))) (by first | with_reducible assumption | exact Nat.le_trans (by with_reducible assumption) (by decide) | (first | lia | omega) | (simp only [List.length_append, List.length_cons, List.length_nil, List.length_replicate]; (first | lia | omega))) (by assumption) (by assumption) (by assumption) (by assumption)) (by k_asm) (by k_asm) (by k_asm) (rot [_, _, _, _, _, _, _] kN) (by k_asm) (by first | exact rfl | assumption) (by (first | exact roomL (by with_reducible assumption) (by rfl) | exact roomL (by assumption) (by rfl) | ktr_room | ((dsimp only [ak]); ktr_room))) (by (first | exact roomU (by with_reducible assumption) (by rfl) | exact roomU (by assumption) (by rfl) | ktr_units | ((dsimp only [ak]); ktr_units))) ?_)
      | (with_unfolding_all refine Ctr.useB (signs_ok x3 d3 o3 _ _ _ _ _ _ _ _ (by first | assumption | k_ne) (by first | assumption | k_ne) (by first | assumption | k_ne) (by repeat' (first | assumption | (refine off_cons3 (by k_ne) (by k_ne) (by k_ne) ?_))) (by assumption) (by first | with_reducible assumption | exact Nat.le_trans (by with_reducible assumption) (by decide) | (first | lia | omega) | (simp only [List.length_append, List.length_cons, List.length_nil, List.length_replicate]; (first | lia | omega))) (by first | with_reducible assumption | exact Nat.le_trans (by with_reducible assumption) (by decide) | (first | lia | omega) | (simp only [List.length_append, List.length_cons, List.length_nil, List.length_replicate]; (first | lia | omega))) lt _ _ txs _ _ (by (repeat' (first | assumption | refine List.mem_cons_of_mem _ ?_))) (hts.mono (by intro p hp; repeat' (first | exact hp | refine List.mem_cons_of_mem _ ?_))) (by first | with_reducible assumption | exact Nat.le_trans (by with_reducible assumption) (by decide) | (first | lia | omega) | (simp only [List.length_append, List.length_cons, List.length_nil, List.length_replicate]; (first | lia | omega))) (by first | with_reducible assumption | exact Nat.le_trans (by with_reducible assumption) (by decide) | (first | lia | omega) | (simp only [List.length_append, List.length_cons, List.length_nil, List.length_replicate]; (first | lia | omega))) (by assumption) (by assumption) (by assumption) (by assumption)) (by k_asm) (by k_asm) (by k_asm) (rot [_, _, _, _, _, _, _, _] kN) (by k_asm) (by first | exact rfl | assumption) (by (first | exact roomL (by with_reducible assumption) (by rfl) | exact roomL (by assumption) (by rfl) | ktr_room | ((dsimp only [ak]); ktr_room))) (by (first | exact roomU (by with_reducible assumption) (by rfl) | exact roomU (by assumption) (by rfl) | ktr_units | ((dsimp only [ak]); ktr_units))) ?_)
      | (with_unfolding_all refine Ctr.useB (signs_ok x3 d3 o3 _ _ _ _ _ _ _ _ (by first | assumption | k_ne) (by first | assumption | k_ne) (by first | assumption | k_ne) (by repeat' (first | assumption | (refine off_cons3 (by k_ne) (by k_ne) (by k_ne) ?_))) (by assumption) (by first | with_reducible assumption | exact Nat.le_trans (by with_reducible assumption) (by decide) | (first | lia | omega) | (simp only [List.length_append, List.length_cons, List.length_nil, List.length_replicate]; (first | lia | omega))) (by first | with_reducible assumption | exact Nat.le_trans (by with_reducible assumption) (by decide) | (first | lia | omega) | (simp only [List.length_append, List.length_cons, List.length_nil, List.length_replicate]; (first | lia | omega))) lt _ _ txs _ _ (by (repeat' (first | assumption | refine List.mem_cons_of_mem _ ?_))) (hts.mono (by intro p hp; repeat' (first | exact hp | refine List.mem_cons_of_mem _ ?_))) (by first | with_reducible assumption | exact Nat.le_trans (by with_reducible assumption) (by decide) | (first | lia | omega) | (simp only [List.length_append, List.length_cons, List.length_nil, List.length_replicate]; (first | lia | omega))) (by first | with_reducible assumption | exact Nat.le_trans (by with_reducible assumption) (by decide) | (first | lia | omega) | (simp only [List.length_append, List.length_cons, List.length_nil, List.length_replicate]; (first | lia | omega))) (by assumption) (by assumption) (by assumption) (by assumption)) (by k_asm) (by k_asm) (by k_asm) (rot [_, _, _, _, _, _, _, _, _] kN) (by k_asm) (by first | exact rfl | assumption) (by (first | exact roomL (by with_reducible assumption) (by rfl) | exact roomL (by assumption) (by rfl) | ktr_room | ((dsimp only [ak]); ktr_room))) (by (first | exact roomU (by with_reducible assumption) (by rfl) | exact roomU (by assumption) (by rfl) | ktr_units | ((dsimp only [ak]); ktr_units))) ?_))
    clear kN
    intro h9 tk9 F9 N9
    (try dsimp only [PL, List.cons_append, List.nil_append] at N9)
    (try dsimp only)
    (try k_sweep)
  k_with "my sel" =>
    (with_reducible rename News _ _ _ _ => kN)
    (with_reducible rename Fr _ _ _ _ => kF)
    (refine SelSrc.intro (txs.map (·.2)) (by rfl) kF kN (by (repeat' (first | assumption | refine List.mem_cons_of_mem _ ?_))) (hts.mono (by intro p hp; repeat' (first | exact hp | refine List.mem_cons_of_mem _ ?_))).sel (by rw [hts.len]; (first | lia | omega)) ?_)
    intro D h9 tk9 ys9 F9 N9 hD hy9
    clear kN kF
    have q1 : @Ne Nat x1 D := hD _ (.head _)
    have q2 : @Ne Nat d1 D := hD _ (.tail _ (.head _))
    have q3 : @Ne Nat o1 D := hD _ (.tail _ (.tail _ (.head _)))
    have q4 : @Ne Nat x2 D := hD _ (.tail _ (.tail _ (.tail _ (.head _))))
    have q5 : @Ne Nat d2 D := hD _ (.tail _ (.tail _ (.tail _ (.tail _ (.head _)))))
    have q6 : @Ne Nat o2 D := hD _ (.tail _ (.tail _ (.tail _ (.tail _ (.tail _ (.head _))))))
    have q7 : @Ne Nat x3 D := hD _ (.tail _ (.tail _ (.tail _ (.tail _ (.tail _ (.tail _ (.head _)))))))
    have q8 : @Ne Nat d3 D := hD _ (.tail _ (.tail _ (.tail _ (.tail _ (.tail _ (.tail _ (.tail _ (.head _))))))))
    have q9 : @Ne Nat o3 D := hD _ (.tail _ (.tail _ (.tail _ (.tail _ (.tail _ (.tail _ (.tail _ (.tail _ (.head _)))))))))
    clear hD
    have hyl : ys9.length ≤ txs.length := by rw [hy9]; exact Nat.le_trans (List.length_filter_le _ _) (by rw [List.length_map]; exact Nat.le_refl _)
    (try dsimp only)
  k_with "my for" =>
    (with_reducible rename News _ _ _ _ => kN)
    (with_reducible rename Fr _ _ _ _ => kF)
    have kM := three_pages kN
    (have hA : AllLt d1 own := by assumption)
    clear kN
    (with_unfolding_all refine For_invTF kF ?_ (by intro _; rfl))
  k_with "my iter" =>
    (with_reducible rename Fr _ _ _ _ => kF)
    (refine iter_valT (PgJ w.params x1 d1 o1 a1 b1 x2 d2 o2 a2 b2 x3 d3 o3 a3 b3 own narrow wide txs _) (by rfl) (by repeat' (first | exact hl | refine List.mem_cons_of_mem _ ?_)) kF kM (PgJ.zero ..) ?_ ?_)
    intro i v m₁ news₁ s₁ own9 hi hadr hoff hl1 hJ F1 N1 Qt hQt
    clear hadr hl1
    revert N1
    revert hJ
    revert news₁
    refine PgJ.elim ?_
    intro r1 v1 k1 r2 v2 k2 r3 v3 k3 hv1 hv2 hv3 hK N1
    revert hi
    revert v
    refine hts.get_l ?_
    intro q x t e hq hxi
    have F2 := ksw_fr hK.1 hK.2 F1
    clear F1 kF kM
    have hq2 : (q, tupO [.str (T x) t, .bool e]) ∈ own ++ own9 := List.mem_append_left _ hq
    have ho1 : OwnOff (own ++ own9) [x1, d1, o1] := off_app (off_lt hA (Nat.le_of_lt lX1) (Nat.le_refl _) (Nat.le_of_lt lO1.2.1)) hoff sub3a
    have ho2 : OwnOff (own ++ own9) [x2, d2, o2] := off_app (off_lt hA (Nat.le_of_lt (Nat.lt_trans lD2.2.2.1 lX2)) (Nat.le_of_lt lD2.2.2.1) (Nat.le_of_lt lO2.2.2.2.2.1)) hoff (sub3s (sub3s (sub3s sub3a)))
    have ho3 : OwnOff (own ++ own9) [x3, d3, o3] := off_app (off_lt hA (Nat.le_of_lt (Nat.lt_trans lD3.2.2.2.2.2.1 lX3)) (Nat.le_of_lt lD3.2.2.2.2.2.1) (Nat.le_of_lt lO3.2.2.2.2.2.2.2.1)) hoff (sub3s (sub3s (sub3s (sub3s (sub3s (sub3s sub3a))))))
    have hx8 : x.length ≤ 8 := htx _ (List.mem_of_getElem? hxi)
    have hi9 : i < txs.length := (List.getElem?_eq_some_iff.mp hxi).1
    refine turn_page_k hxi hts2 htx narrow ?_
    intro A1 B1 p1 C1 D1 q1 e1 hg1 hgp1
    refine turn_page_k hxi hts2 htx wide ?_
    intro A2 B2 p2 C2 D2 q2 e2 hg2 hgp2
    refine turn_page_k hxi hts2 htx 0 ?_
    intro A3 B3 p3 C3 D3 q3 e3 hg3 hgp3
    have hnf := pages_far hn hw hxi hty
    rw [e1, e2] at hnf
    rw [p1] at hv1 N1
    rw [p2] at hv2 N1
    rw [p3] at hv3 N1
    dsimp only at hv1 hv2 hv3 hnf
    dsimp only [PL3, PL, List.cons_append] at N1
    (try dsimp only)
    have hT : IsTup s₁.heap q #[.str (T x) t, .bool e] := News.isTup N1 (by repeat' (first | exact hq2 | refine List.mem_cons_of_mem _ ?_))
    (try dsimp only)
    rotate_left
    intro m₁ news₁ h9 tk9 hadr hl1 hJ F1 N1
    clear hadr hl1
    revert N1
    revert hJ
    revert news₁
    refine PgJ.elim ?_
    intro r1 v1 k1 r2 v2 k2 r3 v3 k3 hv1 hv2 hv3 hK N1
    have F2 := ksw_fr hK.1 hK.2 F1
    clear F1 kF kM
    have ho1 : OwnOff own [x1, d1, o1] := off_lt hA (Nat.le_of_lt lX1) (Nat.le_refl _) (Nat.le_of_lt lO1.2.1)
    have ho2 : OwnOff own [x2, d2, o2] := off_lt hA (Nat.le_of_lt (Nat.lt_trans lD2.2.2.1 lX2)) (Nat.le_of_lt lD2.2.2.1) (Nat.le_of_lt lO2.2.2.2.2.1)
    have ho3 : OwnOff own [x3, d3, o3] := off_lt hA (Nat.le_of_lt (Nat.lt_trans lD3.2.2.2.2.2.1 lX3)) (Nat.le_of_lt lD3.2.2.2.2.2.1) (Nat.le_of_lt lO3.2.2.2.2.2.2.2.1)
    simp only [hlen, List.take_length] at hv1 hv2 hv3 N1 F2
    have hs1 := hv1.len
    have hs2 := hv2.len
    have hs3 := hv3.len
    have hfree := pageAfter_free txs
    refine end_page_k htx hts2 narrow ?_
    intro A1 B1 p1 hg1 hf1 hz1
    refine end_page_k htx hts2 wide ?_
    intro A2 B2 p2 hg2 hf2 hz2
    refine end_page_k htx hts2 0 ?_
    intro A3 B3 p3 hg3 hf3 hz3
    have hb1 := end_page_some hts3 hty p1
    have hb2 := end_page_some hts3 hty p2
    have hb3 := end_page_some hts3 hty p3
    have hw1 := end_page_within (show 0 < narrow by (first | lia | omega)) p1
    have hw2 := end_page_within (show 0 < wide by (first | lia | omega)) p2
    have hw3 : ∀ r ∈ allRows (A3, B3), (0 : Nat) = 0 ∨ r.length ≤ 0 := fun _ _ => .inl rfl
    rw [p1] at hv1 N1
    rw [p2] at hv2 N1
    rw [p3] at hv3 N1 hfree
    have hs1 := hv1.len
    have hs2 := hv2.len
    have hs3 := hv3.len
    dsimp only at hv1 hv2 hv3 hs1 hs2 hs3 hfree
    dsimp only [PL3, PL] at N1
    (try dsimp only)
    rotate_right

  k_with "my assign" =>
    (refine unpackN_ (by k_asm) (by k_asm) hT (by rfl) (by rfl) (by rfl) ?_)
    intro h' F' N'
    (try k_sweep)
  k_with "my comp" =>
    (with_reducible show wpAny _ _ (eval (PySem.Expr.ListComp _ [⟨PySem.Expr.Tuple _ _ _, _, [_], 0⟩] _ _) _) _ _ _)
    (refine comp_sel (by k_asm) (by with_unfolding_all rfl) (by decide) (by rfl) (by decide) (by rfl) (by rfl) (by decide) (by rfl) (by rfl) ?_)
  refine wpAny_call ?_
  k_dflt cell_enter
  (try (refine nameL ?_; intro ak; refine nameE ?_; intro ev))
  repeat' (first | (k_unfold; (try dsimp only)) | walk1 | (dsimp only; walk1) | fail "no step")
  all_goals (rename Fr _ _ _ _ => kF)
  all_goals (rename News _ _ _ _ => kN)
  · exact hQt _ _ (pg_end kF kN e1 e2 e3 (show RowsAre _ C1 by with_reducible assumption) (show RowsAre _ C2 by with_reducible assumption) (show RowsAre _ C3 by with_reducible assumption) hl (fun z h => keeps_none h))
  · exfalso
    rename (v3.length : Int) ≠ (ys9.length : Int) => hq9
    have h9 : v3.length = ys9.length := by rw [hs3, hfree, hy9]
    exact hq9 (by rw [h9])
  · exact hret _ _ _ _ ⟨rfl, rfl⟩ kF (news_of kN (fun p hp => by repeat' (first | exact hp | refine List.mem_cons_of_mem _ ?_)))
end
end
/-! part E11 -/
section
def FwJ (c1 c2 c3 c4 fa ls : Addr) (tw : Tok) (own : Ledger) (sizes : List Nat) (width : Nat) (m₀ : Str → Option Value) (i : Nat) (m : Str → Option Value) (nx : Ledger) : Prop :=
  ∃ fv k fs o1 o2 o3 o4 ve, nx = (fa, W.listOf fv.toArray k) :: (c1, o1) :: (c2, o2) :: (c3, o3) :: (c4, o4) :: own ∧ IntsAre fv fs ∧ fs.length = i + 1 ∧ Dp sizes width fs ∧ m = m₀ ∧
    o1.data = .cell ve ∧ o2.data = .cell (some (.ref fa)) ∧ o3.data = .cell (some (.int (width : Int) tw)) ∧ o4.data = .cell (some (.ref ls))
theorem FwJ.elim {c1 c2 c3 c4 fa ls : Addr} {tw : Tok} {own : Ledger} {sizes : List Nat} {width : Nat} {m₀ : Str → Option Value} {i : Nat} {G : (Str → Option Value) → Ledger → Prop}
    (H : ∀ fv k fs o1 o2 o3 o4 ve, IntsAre fv fs → fs.length = i + 1 → Dp sizes width fs → o1.data = .cell ve → o2.data = .cell (some (.ref fa)) → o3.data = .cell (some (.int (width : Int) tw)) → o4.data = .cell (some (.ref ls)) →
      G m₀ ((fa, W.listOf fv.toArray k) :: (c1, o1) :: (c2, o2) :: (c3, o3) :: (c4, o4) :: own)) : ∀ m nx, FwJ c1 c2 c3 c4 fa ls tw own sizes width m₀ i m nx → G m nx := by
  intro m nx h
  obtain ⟨fv, k, fs, o1, o2, o3, o4, ve, rfl, a, b, c, rfl, d, e, f, g⟩ := h
  exact H fv k fs o1 o2 o3 o4 ve a b c d e f g
theorem off_four {L : Addr} {own : Ledger} (h : ∀ p ∈ own, @LT.lt Nat _ p.1 L) : OwnOff own [L + 1 + 1 + 1 + 1, L + 1 + 1 + 1, L + 1 + 1, L + 1] := by
  intro p hp b hb
  have h1 := h p hp
  have key : @LT.lt Nat _ p.1 b := by
    simp only [List.mem_cons, List.not_mem_nil, or_false] at hb
    rcases hb with rfl | rfl | rfl | rfl
    · exact Nat.lt_of_lt_of_le h1 (Nat.le_add_right L 4)
    · exact Nat.lt_of_lt_of_le h1 (Nat.le_add_right L 3)
    · exact Nat.lt_of_lt_of_le h1 (Nat.le_add_right L 2)
    · exact Nat.lt_of_lt_of_le h1 (Nat.le_add_right L 1)
  exact Nat.ne_of_lt key
theorem FwJ.zero {c1 c2 c3 c4 fa ls : Addr} {tw : Tok} {own : Ledger} {sizes : List Nat} {width : Nat} {m₀ : Str → Option Value} {o1 o2 o3 o4 : Obj} {ve : Option Value} (t : Tok) (k : Nat) (d1 : o1.data = .cell ve) (d2 : o2.data = .cell (some (.ref fa))) (d3 : o3.data = .cell (some (.int (width : Int) tw))) (d4 : o4.data = .cell (some (.ref ls))) :
    FwJ c1 c2 c3 c4 fa ls tw own sizes width m₀ 0 m₀ ((fa, W.listOf #[.int 0 t] k) :: (c1, o1) :: (c2, o2) :: (c3, o3) :: (c4, o4) :: own) :=
  ⟨[.int 0 t], k, [0], o1, o2, o3, o4, ve, rfl, .cons _ _ .nil, rfl, Dp.zero _ _, rfl, d1, d2, d3, d4⟩
/-- what the comprehension has taken of found -/
def FwR (sizes : List Nat) (width : Nat) (fs : List Int) (e : Nat) (kk : Nat) (ys : List Value) : Prop :=
  ∃ ms, IntsAre ys ms ∧ ms.length ≤ kk ∧ (∀ M ∈ ms, ∃ b, b < kk ∧ fitsIn sizes width b e ∧ M = fs.getD b 0) ∧ ∀ b, b < kk → fitsIn sizes width b e → fs.getD b 0 ∈ ms
theorem FwR.zero {sizes : List Nat} {width : Nat} {fs : List Int} {e : Nat} : FwR sizes width fs e 0 [] :=
  ⟨[], .nil, Nat.le_refl _, fun _ h => (nomatch h), fun _ h => absurd h (Nat.not_lt_zero _)⟩
theorem FwR.yes {sizes : List Nat} {width : Nat} {fs : List Int} {e kk : Nat} {ys : List Value} (h : FwR sizes width fs e kk ys) (hf : fitsIn sizes width kk e) (t : Tok) : FwR sizes width fs e (kk + 1) (ys ++ [.int (fs.getD kk 0) t]) := by
  obtain ⟨ms, h1, h2, h3, h4⟩ := h
  refine ⟨ms ++ [fs.getD kk 0], IntsAre.append h1 (.cons _ _ .nil), by simp only [List.length_append, List.length_cons, List.length_nil]; (first | lia | omega), fun M hM => ?_, fun b hb hfb => ?_⟩
  · rcases List.mem_append.mp hM with hM | hM
    · obtain ⟨b, hb, hfb, rfl⟩ := h3 M hM
      exact ⟨b, by (first | lia | omega), hfb, rfl⟩
    · rw [List.mem_singleton.mp hM]
      exact ⟨kk, by (first | lia | omega), hf, rfl⟩
  · by_cases hbk : b = kk
    · subst hbk; exact List.mem_append_right _ (.head _)
    · exact List.mem_append_left _ (h4 b (by (first | lia | omega)) hfb)
theorem FwR.no {sizes : List Nat} {width : Nat} {fs : List Int} {e kk : Nat} {ys : List Value} (h : FwR sizes width fs e kk ys) (hf : ¬ fitsIn sizes width kk e) : FwR sizes width fs e (kk + 1) ys := by
  obtain ⟨ms, h1, h2, h3, h4⟩ := h
  refine ⟨ms, h1, by (first | lia | omega), fun M hM => ?_, fun b hb hfb => ?_⟩
  · obtain ⟨b, hb, hfb, rfl⟩ := h3 M hM
    exact ⟨b, by (first | lia | omega), hfb, rfl⟩
  · by_cases hbk : b = kk
    · subst hbk; exact absurd hfb hf
    · exact h4 b (by (first | lia | omega)) hfb
theorem FwR.fin {sizes : List Nat} {width : Nat} {fs : List Int} {i : Nat} {ys : List Value} (h : FwR sizes width fs (i + 1) (i + 1) ys) (hi : i < sizes.length) (hs : ∀ n ∈ sizes, n ≤ width) (hl : fs.length = i + 1) (hD : Dp sizes width fs) :
    ∃ ms, IntsAre ys ms ∧ ms.length ≤ i + 1 ∧ 0 < ms.length ∧ ∀ M, M ∈ ms → (∀ a, a ∈ ms → M ≤ a) → Dp sizes width (fs ++ [1 + M]) := by
  obtain ⟨ms, h1, h2, h3, h4⟩ := h
  have hx := List.getElem?_eq_getElem hi
  have hf : fitsIn sizes width i (i + 1) := by
    unfold fitsIn
    rw [pref_succ hx]
    have := hs _ (List.getElem_mem hi)
    (first | lia | omega)
  have hm := h4 i (by (first | lia | omega)) hf
  refine ⟨ms, h1, h2, List.length_pos_of_mem hm, fun M hM hall => hD.step (by (first | lia | omega)) ?_ fun b hb hfb => ?_⟩
  · obtain ⟨b, hb, hfb, e⟩ := h3 M hM
    exact ⟨b, by (first | lia | omega), by rw [hl]; exact hfb, e⟩
  · exact hall _ (h4 b (by (first | lia | omega)) (by rw [← hl]; exact hfb))
theorem fits_of {sizes : List Nat} {width b e : Nat} (hb : b ≤ e) (he : e ≤ sizes.length) {x y : Int} (hx : x = (b : Int)) (hy : y = (e : Int)) :
    (((sizes.map fun n : Nat => (n : Int)).drop x.toNat).take (min y.toNat (sizes.map fun n : Nat => (n : Int)).length - x.toNat)).sum ≤ (width : Int) ↔ fitsIn sizes width b e := by
  subst hx
  subst hy
  rw [cut_sum sizes b e hb he]
  unfold fitsIn
  (first | lia | omega)
section
variable {prog : Program} {w : World} {p : Program} {loose : List Str} {mean : ExcName → Option Value} {mg mb : Str → Option Value}
theorem fewest_ok (ls : Addr) (svs : List Value) (kn : Nat) (sizes : List Nat) (width : Nat) (tw : Tok) (own : Ledger) (hl : (ls, W.listOf svs.toArray kn) ∈ own) (hI : IntsAre svs (sizes.map fun n : Nat => (n : Int))) (hn : sizes.length ≤ 20) (hw : width ≤ 1000) (hs : ∀ n ∈ sizes, n ≤ width) :
  Ctr prog w p loose mean mg mb 164 2 [.ref ls, .int (width : Int) tw] own
    (fun v news' => ∃ fs t, Dp sizes width fs ∧ fs.length = sizes.length + 1 ∧ v = .int (fs.getD sizes.length 0) t ∧ news' = own) := by
  have hlen : svs.length = sizes.length := by rw [hI.length, List.length_map]
  refine Ctr.of ?_
  intro dp un gd cn cs a ccd cl outer A₀ base h₀ L m hp gn dr tk0 os0 Q E B F X N Tp hk hdp hun hret
  (try dsimp only [PL] at N hret)
  w_on
  k_with_none
  k_with "call builtin:list.append" =>
    (k_here; (show wpAny _ _ (call (Value.builtin "list.append") [Value.ref _, _]) _ _ _); k_dflt (refine' append_K ?y1k1 ?y1k2 ?y1k3 ?_ ?y1z; (case y1k1 => k_asm); (case y1k2 => k_asm); (case y1k3 => k_upd); (case y1z => first | size_fits | (simp only [List.size_toArray, sizeLine_eq]; (first | lia | omega))); k_whole); intro h' F' N'; (try k_sweep))
  k_with "call builtin:len" =>
    ((with_reducible show wpAny _ _ (call (Value.builtin "len") [Value.str _ _]) _ _ _); (refine' len_X ?y2kx ?y2kz ?_; (case y2kx => first | exact rfl | exact T_nil | exact T_blank); (case y2kz => first | (first | lia | omega) | ((try simp only [List.length_append, List.length_replicate, List.length_nil, List.length_cons, List.length_take, List.length_drop]); (first | lia | omega))); k_whole))
  k_with "binaryOp Add str str" =>
    ((with_reducible show wpAny _ _ (binaryOp Operator.Add (Value.str _ _) (Value.str _ _)) _ _ _); (refine' add_X ?y3kx ?y3ky ?y3kz ?_; (case y3kx => first | exact rfl | exact T_nil | exact T_blank); (case y3ky => first | exact rfl | exact T_nil | exact T_blank); (case y3kz => first | (first | lia | omega) | ((try simp only [List.length_append, List.length_replicate, List.length_nil, List.length_cons, List.length_take, List.length_drop]); (first | lia | omega))); k_whole); intro _ _)
  k_with "compareOp Eq str str" =>
    ((with_reducible show wpAny _ _ (compareOp CmpOp.Eq (Value.str (T _) _) (Value.str _ _)) _ _ _); (refine' eq_X ?y4kx ?y4ky ?_; (case y4kx => first | exact rfl | exact T_nil | exact T_blank); (case y4ky => first | exact rfl | exact T_nil | exact T_blank); k_whole))
  k_with "compareOp Eq str str" =>
    ((with_reducible show wpAny _ _ (compareOp CmpOp.Eq (Value.str _ _) (Value.str (T _) _)) _ _ _); (refine' eq_X ?y5kx ?y5ky ?_; (case y5kx => first | exact rfl | exact T_nil | exact T_blank); (case y5ky => first | exact rfl | exact T_nil | exact T_blank); k_whole))
  k_with "compareOp NotEq str str" =>
    ((with_reducible show wpAny _ _ (compareOp CmpOp.NotEq (Value.str (T _) _) (Value.str _ _)) _ _ _); (refine' ne_X ?y6kx ?y6ky ?_; (case y6kx => first | exact rfl | exact T_nil | exact T_blank); (case y6ky => first | exact rfl | exact T_nil | exact T_blank); k_whole))
  k_with "compareOp NotEq str str" =>
    ((with_reducible show wpAny _ _ (compareOp CmpOp.NotEq (Value.str _ _) (Value.str (T _) _)) _ _ _); (refine' ne_X ?y7kx ?y7ky ?_; (case y7kx => first | exact rfl | exact T_nil | exact T_blank); (case y7ky => first | exact rfl | exact T_nil | exact T_blank); k_whole))
  k_with "binaryOp Mult str int" =>
    ((with_reducible show wpAny _ _ (binaryOp Operator.Mult (Value.str _ _) (Value.int _ _)) _ _ _); (refine' mul_X ?y8kx ?y8k0 ?y8kn ?_; (case y8kx => first | exact rfl | exact T_blank); (case y8k0 => first | (first | lia | omega) | (simp only [List.length_nil]; (first | lia | omega))); (case y8kn => first | (first | lia | omega) | (simp only [List.length_nil]; (first | lia | omega))); k_whole); intro _ _)
  k_with "subscriptTail Name Slice str ref" =>
    ((with_reducible show wpAny _ _ (subscriptTail _ (PySem.Expr.Slice none (some _) none _) (Value.str (T _) _) _) _ _ _); (with_reducible rename Fr _ _ _ _ => F'); (with_reducible rename News _ _ _ _ => N'); (refine' take_T (s := ⟨_, _, _, _, _⟩) ?y9k0 ?y9k1 ?y9kz F' N' ?_ ?y9ks ?y9kt; (case y9k0 => (first | lia | omega)); (case y9k1 => (first | lia | omega)); (case y9kz => (first | lia | omega)); (case y9ks => with_unfolding_all rfl); (case y9kt => intro _; with_unfolding_all rfl); k_whole); intro h' _ _ F' N')
  k_with "subscriptTail Name Slice str ref" =>
    ((with_reducible show wpAny _ _ (subscriptTail _ (PySem.Expr.Slice (some _) none none _) (Value.str (T _) _) _) _ _ _); (with_reducible rename Fr _ _ _ _ => F'); (with_reducible rename News _ _ _ _ => N'); (refine' drop_T (s := ⟨_, _, _, _, _⟩) ?y10k0 ?y10k1 ?y10kz F' N' ?_ ?y10ks ?y10kt; (case y10k0 => (first | lia | omega)); (case y10k1 => (first | lia | omega)); (case y10kz => (first | lia | omega)); (case y10ks => with_unfolding_all rfl); (case y10kt => intro _; with_unfolding_all rfl); k_whole); intro h' _ _ F' N')
  k_with "call ref" =>
    k_dflt (k_extra "my call")
  k_with "exec While" =>
    k_dflt (k_extra "my while")
  k_with "exec For" =>
    k_dflt (k_extra "my for")
  k_with "pyIter ref" =>
    k_dflt (k_extra "my iter")
  k_with "subscriptTail Name Constant ref int" =>
    k_dflt (k_extra "my item")
  k_with "binaryOp Add ref ref" =>
    (k_here; (show wpAny _ _ (binaryOp Operator.Add (Value.ref _) (Value.ref _)) _ _ _); k_dflt (refine' add_L ?y16k1 ?y16k2 ?y16k3 ?y16k4 ?_ ?y16z; (case y16k1 => k_asm); (case y16k2 => k_asm); (case y16k3 => k_mem); (case y16k4 => k_mem); (case y16z => first | (first | lia | omega) | (simp only [List.length_cons, List.length_nil, List.length_append]; (first | lia | omega))); k_whole); intro c9 h9 F9 N9 l9; (have lA := allLt_of l9); (try k_lt l9); (try dsimp only [List.append_nil, List.nil_append, List.cons_append] at N9); (try k_sweep))
  k_with "subscriptTail Constant" =>
    ((with_reducible show wpAny _ _ (subscriptTail _ (PySem.Expr.Slice (some _) (some _) none _) (Value.str (Str.ofString "abcdefghijklmnopqrst") _) _) _ _ _); (with_reducible rename Fr _ _ _ _ => F'); (with_reducible rename News _ _ _ _ => N'); (refine' cut_X (s := ⟨_, _, _, _, _⟩) alpha_T ?y17k0 ?y17k1 ?y17k2 ?y17kz F' N' ?_ ?y17ks ?y17kt; (case y17k0 => (first | lia | omega)); (case y17k1 => (first | lia | omega)); (case y17k2 => rw [List.length_range']; (first | lia | omega)); (case y17kz => rw [List.length_range']; decide); (case y17ks => with_unfolding_all rfl); (case y17kt => intro _; with_unfolding_all rfl); k_whole); intro h' _ _ F' N')
  k_with "subscriptTail Attribute" =>
    k_dflt (k_extra "my item2")
  k_with "call builtin:len" =>
    (k_here; (with_reducible show wpAny _ _ (call (Value.builtin "len") [Value.ref _]) _ _ _); k_dflt (refine' len_L ?y19k1 ?y19k2 ?y19z ?_; (case y19k1 => k_asm); (case y19k2 => first | k_mem | ((repeat' (first | assumption | refine List.mem_cons_of_mem _ ?_)); done)); (case y19z => first | (first | lia | omega) | ((try simp only [List.length_append, List.length_nil, List.length_cons]); (first | lia | omega))); k_whole))
  k_with "subscriptTail Attribute BinOp ref int" =>
    k_dflt (k_extra "my item2")
  k_with "eval ListComp" =>
    k_dflt (k_extra "my comp")
  k_with "CompSrc" =>
    k_dflt (k_extra "my src")
  k_with "CompSrcT" =>
    k_dflt (k_extra "my srcT")
  k_with "SrcLP" =>
    k_dflt (k_extra "my srcP")
  k_with "CompEnd" =>
    k_dflt (k_extra "my end")
  k_with "call builtin:str.join" =>
    (k_here; (show wpAny _ _ (call (Value.builtin "str.join") [Value.str _ _, Value.ref _]) _ _ _); k_dflt (refine' join_X T_nil ?y26k1 ?y26k2 ?y26k3 ?y26z ?_; (case y26k1 => k_asm); (case y26k2 => k_mem); (case y26k3 => assumption); (case y26z => first | (first | lia | omega) | ((try simp only [List.length_append, List.length_nil, List.length_cons]); (first | lia | omega))); k_whole); intro _ _)
  k_with "call builtin:max" =>
    (k_here; (show wpAny _ _ (call (Value.builtin "max") [Value.ref _]) _ _ _); k_dflt (refine' max_X ?y27k0 ?y27k1 ?y27k2 ?y27k3 ?y27k4 ?y27z ?_; (case y27k0 => rfl); (case y27k1 => k_asm); (case y27k2 => k_asm); (case y27k3 => k_mem); (case y27k4 => assumption); (case y27z => first | (first | lia | omega) | ((try simp only [List.length_map, List.length_append, List.length_nil, List.length_cons]); (first | lia | omega))); k_whole); intro h9 M9 t9 tk9 F9 N9 hM1 hM2; (try k_sweep))
  k_with "call builtin:min" =>
    (k_here; (show wpAny _ _ (call (Value.builtin "min") [Value.ref _]) _ _ _); k_dflt (refine' min_X ?y28k0 ?y28k1 ?y28k2 ?y28k3 ?y28k4 ?y28z ?_; (case y28k0 => rfl); (case y28k1 => k_asm); (case y28k2 => k_asm); (case y28k3 => k_mem); (case y28k4 => assumption); (case y28z => first | (first | lia | omega) | ((try simp only [List.length_map, List.length_append, List.length_nil, List.length_cons]); (first | lia | omega))); k_whole); intro h9 M9 t9 tk9 F9 N9 hM1 hM2; (try k_sweep))
  k_with "compareOp NotEq str str" =>
    ((with_reducible show wpAny _ _ (compareOp CmpOp.NotEq (Value.str (T _) _) (Value.str (T _) _)) _ _ _); (refine' ne_K ?y29kx ?y29ky ?y29ks ?_; (case y29kx => exact rfl); (case y29ky => exact rfl); (case y29ks => assumption); k_whole))
  k_with "assign Tuple" =>
    k_dflt (k_extra "my assign")
  k_with "SelSrc" =>
    k_dflt (k_extra "my sel")
  k_with "compareOp Gt ref ref" =>
    (k_here; (with_reducible show wpAny _ _ (compareOp CmpOp.Gt (Value.ref _) (Value.ref _)) _ _ _); k_dflt (refine' gt_pair ?y33k1 ?y33k2 ?y33k3 ?y33k4 ?_; (case y33k1 => (first | exact roomU (by with_reducible assumption) (by rfl) | exact roomU (by assumption) (by rfl) | ktr_units | ((dsimp only [ak]); ktr_units))); (case y33k2 => k_asm); (case y33k3 => k_mem); (case y33k4 => k_mem); k_whole))
  k_with "subscriptTail Name Slice ref ref" =>
    (k_here; (with_reducible show wpAny _ _ (subscriptTail _ (PySem.Expr.Slice _ _ none _) (Value.ref _) (Value.ref _)) _ _ _); k_dflt (refine' kmk_slice_ints ?y34F ?y34N ?y34l ?y34p ?y34q ?y34i ?y34m ?y34c ?_ ?y34s ?y34t ?y34z; (case y34F => k_asm); (case y34N => k_asm); (case y34l => exact News.isList (by k_asm) (by first | k_mem | (repeat' (first | assumption | refine List.mem_cons_of_mem _ ?_)))); (case y34p => kmk_part); (case y34q => kmk_part); (case y34i => assumption); (case y34m => exact kmk_run (by assumption) (by (first | lia | omega)) (by (first | lia | omega))); (case y34c => exact rfl); (case y34s => with_unfolding_all rfl); (case y34t => kmk_pure); (case y34z => first | assumption | kmk_size)); intro D' ws' h' F' N' l1 hI' hC' hL'; (try k_lt l1); (try k_sweep))
  k_with "call builtin:sum" =>
    (k_here; (with_reducible show wpAny _ _ (call (Value.builtin "sum") [Value.ref _]) _ _ _); k_dflt (refine' sum_X ?y35k0 ?y35k1 ?y35k2 ?y35k3 ?y35k4 ?_; (case y35k0 => rfl); (case y35k1 => k_asm); (case y35k2 => k_asm); (case y35k3 => k_mem); (case y35k4 => assumption); k_whole); intro h' tk' t' F' N'; (try k_sweep))
  k_with "subscriptTail Name Name ref int" =>
    k_dflt (k_extra "my idx")
  k_with "subscriptTail Name Call ref int" =>
    k_dflt (k_extra "my idx")
  k_with "k_ne" =>
    first | with_reducible assumption | exact Ne.symm (by with_reducible assumption) | exact Nat.ne_of_lt (by with_reducible assumption) | exact Nat.ne_of_gt (by with_reducible assumption) | exact neL0 (by with_reducible assumption) | exact neR0 (by with_reducible assumption) | exact neL1 (by with_reducible assumption) | exact neR1 (by with_reducible assumption) | exact neL2 (by with_reducible assumption) | exact neR2 (by with_reducible assumption) | exact neL3 (by with_reducible assumption) | exact neR3 (by with_reducible assumption) | exact neL4 (by with_reducible assumption) | exact neR4 (by with_reducible assumption) | exact neL5 (by with_reducible assumption) | exact neR5 (by with_reducible assumption) | exact neL6 (by with_reducible assumption) | exact neR6 (by with_reducible assumption) | exact neL7 (by with_reducible assumption) | exact neR7 (by with_reducible assumption) | exact neL8 (by with_reducible assumption) | exact neR8 (by with_reducible assumption) | exact neL9 (by with_reducible assumption) | exact neR9 (by with_reducible assumption) | exact neL10 (by with_reducible assumption) | exact neR10 (by with_reducible assumption) | exact neL11 (by with_reducible assumption) | exact neR11 (by with_reducible assumption) | exact neL12 (by with_reducible assumption) | exact neR12 (by with_reducible assumption) | exact neL13 (by with_reducible assumption) | exact neR13 (by with_reducible assumption) | exact neTL0 (by with_reducible assumption) (by with_reducible assumption) | exact neTR0 (by with_reducible assumption) (by with_reducible assumption) | exact neTL1 (by with_reducible assumption) (by with_reducible assumption) | exact neTR1 (by with_reducible assumption) (by with_reducible assumption) | exact neTL2 (by with_reducible assumption) (by with_reducible assumption) | exact neTR2 (by with_reducible assumption) (by with_reducible assumption) | exact neTL3 (by with_reducible assumption) (by with_reducible assumption) | exact neTR3 (by with_reducible assumption) (by with_reducible assumption) | exact neTL4 (by with_reducible assumption) (by with_reducible assumption) | exact neTR4 (by with_reducible assumption) (by with_reducible assumption) | exact neTL5 (by with_reducible assumption) (by with_reducible assumption) | exact neTR5 (by with_reducible assumption) (by with_reducible assumption) | exact neTL6 (by with_reducible assumption) (by with_reducible assumption) | exact neTR6 (by with_reducible assumption) (by with_reducible assumption) | exact neTL7 (by with_reducible assumption) (by with_reducible assumption) | exact neTR7 (by with_reducible assumption) (by with_reducible assumption) | exact neTL8 (by with_reducible assumption) (by with_reducible assumption) | exact neTR8 (by with_reducible assumption) (by with_reducible assumption) | exact neTL9 (by with_reducible assumption) (by with_reducible assumption) | exact neTR9 (by with_reducible assumption) (by with_reducible assumption) | exact neQ0 (by with_reducible assumption) | exact Ne.symm (neQ0 (by with_reducible assumption)) | exact neQ1 (by with_reducible assumption) | exact Ne.symm (neQ1 (by with_reducible assumption)) | exact neQ2 (by with_reducible assumption) | exact Ne.symm (neQ2 (by with_reducible assumption)) | exact neQ3 (by with_reducible assumption) | exact Ne.symm (neQ3 (by with_reducible assumption)) | exact neQ4 (by with_reducible assumption) | exact Ne.symm (neQ4 (by with_reducible assumption)) | exact neQ5 (by with_reducible assumption) | exact Ne.symm (neQ5 (by with_reducible assumption)) | exact neQ6 (by with_reducible assumption) | exact Ne.symm (neQ6 (by with_reducible assumption)) | exact neQ7 (by with_reducible assumption) | exact Ne.symm (neQ7 (by with_reducible assumption)) | exact neQ8 (by with_reducible assumption) | exact Ne.symm (neQ8 (by with_reducible assumption)) | exact neQ9 (by with_reducible assumption) | exact Ne.symm (neQ9 (by with_reducible assumption))
  k_with "my for" =>
    (with_reducible rename Fr _ _ _ _ => kF)
    (with_unfolding_all refine For_invTF kF ?_ (by intro _; rfl))
  k_with "my comp" =>
    (first
      | ((with_reducible show wpAny _ _ (eval (PySem.Expr.ListComp _ [⟨PySem.Expr.Tuple _ _ _, _, [], 0⟩] _ _) _) _ _ _); refine LCp.ListComp_P (F₀ := by k_asm) (by with_unfolding_all rfl) (by decide) (by rfl) (by decide) (by rfl) (by rfl) (by decide) ?_)
      | ((with_reducible show wpAny _ _ (eval (PySem.Expr.ListComp _ [⟨PySem.Expr.Name _ _, _, [], 0⟩] _ _) _) _ _ _); refine LCg.ListComp_U (F₀ := by k_asm) (by with_unfolding_all rfl) (by decide) (by rfl) (by decide) (by rfl) ?_)
      | ((with_reducible show wpAny _ _ (eval (PySem.Expr.ListComp _ [⟨PySem.Expr.Name _ _, _, [_], 0⟩] _ _) _) _ _ _); refine LCt.ListComp_T (F₀ := by k_asm) (by with_unfolding_all rfl) (by decide) (by rfl) (by decide) (by rfl) ?_))
  k_with "my iter" =>
    (with_reducible rename Fr _ _ _ _ => kF)
    (with_reducible rename News _ _ _ _ => kN)
    (with_reducible rename IsRange _ _ _ _ _ _ _ _ => kR)
    (refine iter_rngT (n := sizes.length) (FwJ (L' + 1 + 1 + 1 + 1) (L' + 1 + 1 + 1) (L' + 1 + 1) (L' + 1) _ ls tw own sizes width _) (fun _ _ => rfl) (by rfl) kR (small_one (by decide) (by decide) (by rw [List.length_map]; (first | lia | omega)) (by rw [List.length_map]; (first | lia | omega))) (by rw [rangeSize_nat, List.length_map]; (first | lia | omega)) kF kN (FwJ.zero _ _ (by assumption) (by assumption) (by with_unfolding_all assumption) (by with_unfolding_all assumption)) ?_ ?_)
    intro i t I oI m₁ news₁ s₁ hi hoff hJ F1 N1 Qt hQt
    revert hoff F1 N1
    revert hJ
    revert m₁ news₁
    refine FwJ.elim ?_
    intro fv k fs o1 o2 o3 o4 ve hfv hfl hDp d1 d2 d3 d4 hoff F1 N1
    have hI0 : @Ne Nat _ I := hoff _ (.head _)
    have hI1 : @Ne Nat (L' + 1 + 1 + 1 + 1) I := hoff _ (.tail _ (.head _))
    have hI2 : @Ne Nat (L' + 1 + 1 + 1) I := hoff _ (.tail _ (.tail _ (.head _)))
    have hI3 : @Ne Nat (L' + 1 + 1) I := hoff _ (.tail _ (.tail _ (.tail _ (.head _))))
    have hI4 : @Ne Nat (L' + 1) I := hoff _ (.tail _ (.tail _ (.tail _ (.tail _ (.head _)))))
    have hI5 : OwnOff own [I, L' + 1 + 1 + 1 + 1, L' + 1 + 1 + 1, L' + 1 + 1, L' + 1] := fun p hp b hb => (List.mem_cons.mp hb).elim (fun e => by rw [e]; exact hoff p (.tail _ (.tail _ (.tail _ (.tail _ (.tail _ hp)))))) (fun hb => hoc p hp b hb)
    have hfvl : fv.length = i + 1 := by rw [hfv.length, hfl]
    clear kF kN kR
    rotate_left
    intro m₁ news₁ h9 tk9 hJ F1 N1
    revert F1 N1
    revert hJ
    revert m₁ news₁
    refine FwJ.elim ?_
    intro fv k fs o1 o2 o3 o4 ve hfv hfl hDp d1 d2 d3 d4 F1 N1
    clear kF kN kR
    rotate_right
  k_with "my srcT" =>
    (refine LCt.CompSrcT.range (n := i + 1) (by rfl) (by k_asm) (by k_asm) (by k_asm) (small_one (by decide) (by decide) (by (first | lia | omega)) (by (first | lia | omega))) (by rw [rangeSize_nat]; (first | lia | omega)) (by rw [sizeLine_eq]; (first | lia | omega)) ?_)
    intro g9
    refine rest_T (FwR sizes width fs (i + 1)) FwR.zero ?_ ?_
    rintro b v ys I2 oI2 C oC D m₂ h7 tk7 E7 hb ⟨tb, rfl⟩ hR hC hx F7 N7 off ne
    rotate_left
    intro ys9 hR9
    obtain ⟨ms, hms, hml, hm0, hmD⟩ := hR9.fin hi hs hfl hDp
    rotate_right
  k_with "my idx" =>
    (with_reducible rename News _ _ _ _ => kN)
    (with_unfolding_all refine item_I kN (by k_mem) hfv (by (first | lia | omega)) (by (first | lia | omega)) (by (first | lia | omega)) ?_)
    intro tq9
  k_with "my end" =>
    (with_reducible rename News _ _ _ _ => kN)
    (with_reducible rename Fr _ _ _ _ => kF)
    (first
      | ((rename ¬ (_ ≤ (width : Int)) => hq9); (refine LCg.CompEnd.intro kF kN _ (fun p hp => .tail _ hp) off trivial ⟨rfl, ?_⟩); exact hR.no (fun hf => hq9 ((fits_of (by (first | lia | omega)) (by (first | lia | omega)) (by (first | lia | omega)) (by (first | lia | omega))).mpr hf)))
      | ((rename (_ ≤ (width : Int)) => hq9); (refine LCg.CompEnd.intro kF kN _ (fun p hp => .tail _ hp) off trivial ⟨rfl, ?_⟩); rw [show (0 + (b : Int)).toNat = b by (first | lia | omega)]; exact hR.yes ((fits_of (by (first | lia | omega)) (by (first | lia | omega)) (by (first | lia | omega)) (by (first | lia | omega))).mp hq9) _))
  refine wpAny_call ?_
  k_dflt (refine' code_defC ?k1 ?k2 ?k3 ?k4 ?k5 ?kA ?kF ?kK ?k6 ?k7 ?k8 ?k9 ?kB ?kD ?_ ?c2 ?c3 ?c4; (case kA => exact rfl); (case kF => exact rfl); (case kK => first | exact rfl | assumption); (case k1 => k_asm); (case k2 => k_asm); (case k3 => k_asm); (case k4 => k_asm); (case k5 => k_asm); (case k6 => k_is); (case k7 => k_is); (case k8 => (first | exact roomL (by with_reducible assumption) (by rfl) | exact roomL (by assumption) (by rfl) | ktr_room | ((dsimp only [ak]); ktr_room))); (case k9 => exact BindsTo.of_eq rfl); (case kB => exact rfl); (case kD => decide +kernel); (case c2 => exact rfl); (case c3 => exact rfl); (case c4 => exact rfl); k_whole; intro g' L' h' tk' cells' FG' F' N' Y' B' X' T' l1; (try k_lt l1); k_cells Y'; (try simp only [List.cons_append, List.nil_append] at N'); (try dsimp only); (try k_lift B'); (try k_fold))
  (try (refine nameL ?_; intro ak; refine nameE ?_; intro ev))
  have hoc := off_four l1
  repeat' (first | (k_unfold; (try dsimp only)) | walk1 | (dsimp only; walk1) | fail "no step")
  all_goals (rename Fr _ _ _ _ => kF)
  all_goals (rename News _ _ _ _ => kN)
  · simp only [List.push_toArray] at kN
    refine hQt _ _ ⟨rfl, EndG.intro kF kN (.tail _ (.head _)) (fun p hp => .tail _ (.tail _ hp)) ?_ ⟨_, _, _, _, _, _, _, _, rfl, IntsAre.append (show IntsAre fv fs by assumption) (.cons _ _ .nil), ?_, hmD _ (by assumption) (by assumption), rfl, (by assumption), d2, d3, d4⟩⟩
    · intro p hp
      rcases List.mem_cons.mp hp with rfl | hp
      · exact hI0
      rcases List.mem_cons.mp hp with rfl | hp
      · exact hI1
      rcases List.mem_cons.mp hp with rfl | hp
      · exact hI2
      rcases List.mem_cons.mp hp with rfl | hp
      · exact hI3
      rcases List.mem_cons.mp hp with rfl | hp
      · exact hI4
      · exact hI5 p hp I (.head _)
    · rw [List.length_append, hfl]; rfl
  · rw [hlen, Int.toNat_natCast]
    exact hret _ _ _ _ ⟨fs, _, hDp, hfl, rfl, rfl⟩ kF (news_of kN (fun p hp => .tail _ (.tail _ (.tail _ (.tail _ (.tail _ hp))))))
end
end
/-! part E12 -/
section
theorem offC {x : Addr × Obj} {l : Ledger} {I : Addr} (h : @Ne Nat x.1 I) (t : ∀ p ∈ l, p.1 ≠ I) : ∀ p ∈ x :: l, p.1 ≠ I := fun p hp => (List.mem_cons.mp hp).elim (fun e => by rw [e]; exact h) (t p)
theorem neC {a x : Addr} {l : List Addr} (h : @Ne Nat a x) (t : ∀ b ∈ l, a ≠ b) : ∀ b ∈ x :: l, a ≠ b := fun b hb => (List.mem_cons.mp hb).elim (fun e => by rw [e]; exact h) (t b)
theorem neNil {a : Addr} : ∀ b ∈ ([] : List Addr), a ≠ b := fun _ h => nomatch h
theorem offN {a : Addr × Obj} {own : Ledger} {l : List Addr} (h : ∀ b ∈ l, a.1 ≠ b) (t : OwnOff own l) : OwnOff (a :: own) l := fun p hp => (List.mem_cons.mp hp).elim (fun e => by rw [e]; exact h) (t p)
theorem keepE {q : Addr × Obj} {own own' : Ledger} (t : ∀ p ∈ own, p ∈ own') : ∀ p ∈ own, p ∈ q :: own' := fun p hp => .tail _ (t p hp)
theorem one_page {P : Params} {h₀ h : Heap} {L : Addr} {D' : Addr} {oT : Obj} {X1 D1 O1 LP : Addr} {a1 b1 c1 : Tok} {own : Ledger}
    (N : News h₀ L h ((D', oT) :: (LP, W.listOf #[] 0) :: (O1, W.listOf #[] 0) :: (X1, instObj 54 D1) :: (D1, dictOf (pageD P a1 b1 O1 (.str (T []) c1)) 2) :: own)) :
    News h₀ L h (PL P X1 D1 O1 a1 b1 [] c1 [] 0 ((LP, W.listOf #[] 0) :: own)) := by
  (show News h₀ L h (_ :: _ :: _ :: _ :: own))
  (repeat' (first | (intro q hq; refine N q ?_; (repeat' (first | exact hq | refine List.mem_cons_of_mem _ ?_)); done) | refine newsC N (by k_mem) ?_))
def RrJ (P : Params) (x1 d1 o1 : Addr) (a1 b1 : Tok) (own : Ledger) (txs : List (List Nat × Bool)) (m₀ : Str → Option Value) (i : Nat) (m : Str → Option Value) (nx : Ledger) : Prop :=
  ∃ lp pvs kk own9 tr vk, nx = PL P x1 d1 o1 a1 b1 [] tr [] vk ((lp, W.listOf pvs.toArray kk) :: own9) ∧ PartsIn own9 pvs (rowParts ((txs.take i).map Prod.fst)) ∧ (∀ p ∈ own, p ∈ own9) ∧ OwnOff own9 [x1, d1, o1] ∧
    (@Ne Nat lp x1) ∧ (@Ne Nat lp d1) ∧ (@Ne Nat lp o1) ∧ Keeps [(Str.ofString "parts", .ref lp)] [Str.ofString "text", Str.ofString "ends"] m₀ m
theorem RrJ.elim {P : Params} {x1 d1 o1 : Addr} {a1 b1 : Tok} {own : Ledger} {txs : List (List Nat × Bool)} {m₀ : Str → Option Value} {i : Nat} {m : Str → Option Value} {C : Ledger → Prop}
    (H : ∀ lp pvs kk own9 tr vk, PartsIn own9 pvs (rowParts ((txs.take i).map Prod.fst)) → (∀ p ∈ own, p ∈ own9) → OwnOff own9 [x1, d1, o1] → (@Ne Nat lp x1) → (@Ne Nat lp d1) → (@Ne Nat lp o1) → Keeps [(Str.ofString "parts", .ref lp)] [Str.ofString "text", Str.ofString "ends"] m₀ m →
      C (PL P x1 d1 o1 a1 b1 [] tr [] vk ((lp, W.listOf pvs.toArray kk) :: own9))) : ∀ nx, RrJ P x1 d1 o1 a1 b1 own txs m₀ i m nx → C nx := by
  intro nx h
  obtain ⟨lp, pvs, kk, own9, tr, vk, rfl, a, b, c, d, e, f, g⟩ := h
  exact H lp pvs kk own9 tr vk a b c d e f g
theorem RrJ.zero {P : Params} {x1 d1 o1 lp : Addr} {a1 b1 : Tok} {own : Ledger} {txs : List (List Nat × Bool)} {m₀ : Str → Option Value} {c1 : Tok} (ho : OwnOff own [x1, d1, o1]) (h1 : @Ne Nat lp x1) (h2 : @Ne Nat lp d1) (h3 : @Ne Nat lp o1) (hm : m₀ (Str.ofString "parts") = some (.ref lp)) :
    RrJ P x1 d1 o1 a1 b1 own txs m₀ 0 m₀ (PL P x1 d1 o1 a1 b1 [] c1 [] 0 ((lp, W.listOf #[] 0) :: own)) :=
  ⟨lp, [], 0, own, c1, 0, rfl, PartsIn.nil, fun p hp => hp, ho, h1, h2, h3, ⟨fun q hq => (by rcases List.mem_cons.mp hq with rfl | hq; exact hm; nomatch hq), fun z _ _ => rfl⟩⟩
theorem PartsIn.mono {own own' : Ledger} {vs : List Value} {ps : List Part} (h : PartsIn own vs ps) (hs : ∀ p ∈ own, p ∈ own') : PartsIn own' vs ps := by
  induction h with
  | nil => exact .nil
  | cons hq hP _ ih => exact .cons (hs _ hq) hP ih
theorem PartsIn.app {own : Ledger} {vs vs2 : List Value} {ps ps2 : List Part} (h : PartsIn own vs ps) (h2 : PartsIn own vs2 ps2) : PartsIn own (vs ++ vs2) (ps ++ ps2) := by
  induction h with
  | nil => exact h2
  | cons hq hP _ ih => exact .cons hq hP ih
theorem keeps_two {x y y2 : Str} {a b c : Option Value} {v : Value} {u m₀ : Str → Option Value} {z : Str} (h1 : z ≠ x) (hs : [y2, y].contains z = false) :
    (if z = x then a else if z = y then b else if z = y2 then c else kstB (fun z => if [y2, y].contains z = true then u z else m₀ z) [(x, v)] z) = m₀ z := by
  have h2 : z ≠ y := by rintro rfl; simp at hs
  have h3 : z ≠ y2 := by rintro rfl; simp at hs
  rw [if_neg h1, if_neg h2, if_neg h3]
  show (if z = x then _ else _) = _
  rw [if_neg h1]
  show (if [y2, y].contains z = true then _ else _) = _
  rw [hs]
  rfl
theorem rr_end {P : Params} {h₀ : Heap} {L : Addr} {x1 d1 o1 lp c l' ta tb I lt : Addr} {a1 b1 tr t tk9 tg : Tok} {vk nt : Nat} {own own9 : Ledger} {pvs tvs : List Value} {txs : List (List Nat × Bool)} {i : Nat} {x : List Nat} {e : Bool} {ol oI olp : Obj} {h' : Heap} {m' m₀ : Str → Option Value} {s₁ : Shared} {tk : Nat}
    (F : Fr h₀ L h' m') (N : News h₀ L h' ((c, W.listOf (pvs ++ [Value.ref ta, Value.ref tb]).toArray 0) :: (l', ol) :: (tb, tupO [.str (Str.ofString "glue") tg]) :: (ta, tupO [.str (Str.ofString "text") tk9, .str (T x) t]) :: (I, oI) :: (x1, instObj 54 d1) :: (d1, dictOf (pageD P a1 b1 o1 (.str (T []) tr)) 2) :: (o1, W.listOf #[] vk) :: (lp, olp) :: own9))
    (hps : PartsIn own9 pvs (rowParts ((txs.take i).map Prod.fst))) (hxi : txs[i]? = some (x, e)) (hx : x.length ≤ 300) (hsub : ∀ p ∈ own, p ∈ own9) (ho : OwnOff own9 [x1, d1, o1]) (hl : (lt, W.listOf tvs.toArray nt) ∈ own)
    (hI : ∀ p ∈ own9, p.1 ≠ I) (i1 : @Ne Nat x1 I) (i2 : @Ne Nat d1 I) (i3 : @Ne Nat o1 I) (i4 : @Ne Nat c I) (i5 : @Ne Nat ta I) (i6 : @Ne Nat tb I)
    (c1 : @Ne Nat c x1) (c2 : @Ne Nat c d1) (c3 : @Ne Nat c o1) (e1 : @Ne Nat ta x1) (e2 : @Ne Nat ta d1) (e3 : @Ne Nat ta o1) (f1 : @Ne Nat tb x1) (f2 : @Ne Nat tb d1) (f3 : @Ne Nat tb o1)
    (hm : m' (Str.ofString "parts") = some (.ref c)) (hk : ∀ z, z ≠ Str.ofString "parts" → [Str.ofString "text", Str.ofString "ends"].contains z = false → m' z = m₀ z) :
    NextG h₀ L (fun m' nx => (lt, W.listOf tvs.toArray nt) ∈ nx ∧ RrJ P x1 d1 o1 a1 b1 own txs m₀ (i + 1) m' nx) I oI s₁ .next { s₁ with heap := h', toks := tk } := by
  refine ⟨rfl, EndG.intro (nx := PL P x1 d1 o1 a1 b1 [] tr [] vk ((c, W.listOf (pvs ++ [Value.ref ta, Value.ref tb]).toArray 0) :: (tb, tupO [.str (Str.ofString "glue") tg]) :: (ta, tupO [.str (Str.ofString "text") tk9, .str (T x) t]) :: own9)) F N ?_ ?_ ?_ ⟨?_, c, _, 0, _, tr, vk, rfl, ?_, ?_, ?_, c1, c2, c3, ⟨?_, ?_⟩⟩⟩
  · exact .tail _ (.tail _ (.tail _ (.tail _ (.head _))))
  · dsimp only [PL]
    (repeat' (first | (intro q hq; (repeat' (first | exact hq | refine List.mem_cons_of_mem _ ?_)); done) | refine subC (by k_mem) ?_))
  · exact offC i1 (offC i2 (offC i3 (offC i4 (offC i6 (offC i5 hI)))))
  · exact .tail _ (.tail _ (.tail _ (.tail _ (.tail _ (.tail _ (hsub _ hl))))))
  · rw [take_snoc hxi, List.map_append, show List.map Prod.fst [(x, e)] = [x] from rfl, rowParts_snoc]
    refine PartsIn.app (hps.mono fun p hp => .tail _ (.tail _ hp)) ?_
    exact .cons (.tail _ (.head _)) (PartIs.text _ _ _ hx) (.cons (.head _) (PartIs.glue _) .nil)
  · exact fun p hp => .tail _ (.tail _ (hsub p hp))
  · exact off_cons3 f1 f2 f3 (off_cons3 e1 e2 e3 ho)
  · intro q hq
    rcases List.mem_cons.mp hq with rfl | hq
    · exact hm
    · nomatch hq
  · intro z hz hs
    exact hk z (hz _ (.head _)) hs
theorem greedy_page {ts : List Txt0} {w9 : Nat} (hw8 : 8 ≤ w9) (h0 : 0 < ts.length) (h : ts.length ≤ 12) (ht1 : ∀ t ∈ ts, 1 ≤ t.length) (ht : ∀ t ∈ ts, t.length ≤ 8) :
    ∃ A B, writeParts 14 w9 ([], []) (rowParts ts) = (A, B) ∧ A.length ≤ 9000 ∧ B.length ≤ 9000 ∧ ∃ nr, (allRows (A, B)).length = nr ∧ nr ≤ 9001 ∧ ∀ fs, Dp (ts.map List.length) w9 fs → fs.length = (ts.map List.length).length + 1 → (nr : Int) = fs.getD (ts.map List.length).length 0 := by
  have hne : ts ≠ [] := List.length_pos_iff.mp h0
  have hg := writeParts0_grow (zone := 14) (width := w9) (by (first | lia | omega)) (by (first | lia | omega)) ([], []) (rowParts ts) (fun q hq => by
    unfold rowParts at hq
    obtain ⟨l, hl, hq⟩ := List.mem_flatten.mp hq
    obtain ⟨t, ht2, rfl⟩ := List.mem_map.mp hl
    rcases List.mem_cons.mp hq with rfl | hq
    · exact Nat.le_trans (ht t ht2) (by (first | lia | omega))
    rcases List.mem_cons.mp hq with rfl | hq
    · trivial
    · nomatch hq)
  rw [rowParts_greedy, rowParts_len] at hg
  rw [rowParts_written 14 w9 hne]
  have hrf := fun fs => rows_fewest (w := w9) (ts := ts) (fs := fs) (by (first | lia | omega)) (fun t h => ⟨ht1 t h, Nat.le_trans (ht t h) hw8⟩)
  generalize greedy w9 ts = p at *
  obtain ⟨A, B⟩ := p
  simp only [List.length_nil] at hg
  have h9 := allRows_len (A, B)
  simp only at h9
  exact ⟨A, B, rfl, by (first | lia | omega), by (first | lia | omega), _, rfl, by (first | lia | omega), hrf⟩
section
variable {prog : Program} {w : World} {p : Program} {loose : List Str} {mean : ExcName → Option Value} {mg mb : Str → Option Value}
theorem write_parts_K (pg dx o : Addr) (t1 t2 tr : Tok) (row : List Nat) (rows : List (List Nat)) (vs : List Value) (k : Nat) (own : Ledger) (h1 : @Ne Nat pg dx) (h2 : @Ne Nat pg o) (h3 : @Ne Nat dx o) (ho : OwnOff own [pg, dx, o]) (hv : RowsAre vs rows) (lp : Addr) (pvs : List Value) (nn : Nat) (ps : List Part) (zone width : Nat) (tz tw : Tok) (hl : (lp, W.listOf pvs.toArray nn) ∈ own) (hps : PartsIn own pvs ps) (hz : 1 ≤ zone) (hz2 : zone ≤ 20) (hw : width ≤ 1000)
    (hsz : rows.length + 302 * ps.length ≤ 9000) (hr : row.length + 302 * ps.length ≤ 9000) (C : List (List Nat)) (D : List Nat) (hq : writeParts zone width (rows, row) ps = (C, D)) :
  Ctr prog w p loose mean mg mb 114 5 [.ref pg, .ref lp, .int (zone : Int) tz, .int (width : Int) tw]
    (PL w.params pg dx o t1 t2 row tr vs k own)
    (fun v news' => v = .none ∧ ∃ (tr' : Tok) (vs' : List Value) (k' : Nat), news' = PL w.params pg dx o t1 t2 D tr' vs' k' own ∧ RowsAre vs' C) := by
  have h := write_parts_ok (prog := prog) (w := w) (p := p) (loose := loose) (mean := mean) (mg := mg) (mb := mb) pg dx o t1 t2 tr row rows vs k own h1 h2 h3 ho hv lp pvs nn ps zone width tz tw hl hps hz hz2 hw hsz hr
  rw [hq] at h
  exact h
theorem rows_right_ok (lt : Addr) (tvs : List Value) (nt : Nat) (txs : List (List Nat × Bool)) (width : Nat) (tw : Tok) (own : Ledger) (hl : (lt, W.listOf tvs.toArray nt) ∈ own) (hts : TextsIn own tvs txs) (hw : 8 ≤ width) (hw2 : width ≤ 1000) (hts2 : txs.length ≤ 12) (hts3 : 0 < txs.length)
    (htx : ∀ t ∈ txs, 1 ≤ t.1.length ∧ t.1.length ≤ 8) :
  Ctr prog w p loose mean mg mb 169 9 [.ref lt, .int (width : Int) tw] own
    (fun v news' => v = .bool true ∧ news' = own) := by
  have hlen := hts.len
  refine Ctr.of ?_
  intro dp un gd cn cs a ccd cl outer A₀ base h₀ L m hp gn dr tk0 os0 Q E B F X N Tp hk hdp hun hret
  (try dsimp only [PL] at N hret)
  w_on
  k_with_none
  k_with "call builtin:list.append" =>
    (k_here; (show wpAny _ _ (call (Value.builtin "list.append") [Value.ref _, _]) _ _ _); k_dflt (refine' append_K ?y1k1 ?y1k2 ?y1k3 ?_ ?y1z; (case y1k1 => k_asm); (case y1k2 => k_asm); (case y1k3 => k_upd); (case y1z => first | size_fits | (simp only [List.size_toArray, sizeLine_eq]; (first | lia | omega))); k_whole); intro h' F' N'; (try k_sweep))
  k_with "call builtin:len" =>
    ((with_reducible show wpAny _ _ (call (Value.builtin "len") [Value.str _ _]) _ _ _); (refine' len_X ?y2kx ?y2kz ?_; (case y2kx => first | exact rfl | exact T_nil | exact T_blank); (case y2kz => first | (first | lia | omega) | ((try simp only [List.length_append, List.length_replicate, List.length_nil, List.length_cons, List.length_take, List.length_drop]); (first | lia | omega))); k_whole))
  k_with "binaryOp Add str str" =>
    ((with_reducible show wpAny _ _ (binaryOp Operator.Add (Value.str _ _) (Value.str _ _)) _ _ _); (refine' add_X ?y3kx ?y3ky ?y3kz ?_; (case y3kx => first | exact rfl | exact T_nil | exact T_blank); (case y3ky => first | exact rfl | exact T_nil | exact T_blank); (case y3kz => first | (first | lia | omega) | ((try simp only [List.length_append, List.length_replicate, List.length_nil, List.length_cons, List.length_take, List.length_drop]); (first | lia | omega))); k_whole); intro _ _)
  k_with "compareOp Eq str str" =>
    ((with_reducible show wpAny _ _ (compareOp CmpOp.Eq (Value.str (T _) _) (Value.str _ _)) _ _ _); (refine' eq_X ?y4kx ?y4ky ?_; (case y4kx => first | exact rfl | exact T_nil | exact T_blank); (case y4ky => first | exact rfl | exact T_nil | exact T_blank); k_whole))
  k_with "compareOp Eq str str" =>
    ((with_reducible show wpAny _ _ (compareOp CmpOp.Eq (Value.str _ _) (Value.str (T _) _)) _ _ _); (refine' eq_X ?y5kx ?y5ky ?_; (case y5kx => first | exact rfl | exact T_nil | exact T_blank); (case y5ky => first | exact rfl | exact T_nil | exact T_blank); k_whole))
  k_with "compareOp NotEq str str" =>
    ((with_reducible show wpAny _ _ (compareOp CmpOp.NotEq (Value.str (T _) _) (Value.str _ _)) _ _ _); (refine' ne_X ?y6kx ?y6ky ?_; (case y6kx => first | exact rfl | exact T_nil | exact T_blank); (case y6ky => first | exact rfl | exact T_nil | exact T_blank); k_whole))
  k_with "compareOp NotEq str str" =>
    ((with_reducible show wpAny _ _ (compareOp CmpOp.NotEq (Value.str _ _) (Value.str (T _) _)) _ _ _); (refine' ne_X ?y7kx ?y7ky ?_; (case y7kx => first | exact rfl | exact T_nil | exact T_blank); (case y7ky => first | exact rfl | exact T_nil | exact T_blank); k_whole))
  k_with "binaryOp Mult str int" =>
    ((with_reducible show wpAny _ _ (binaryOp Operator.Mult (Value.str _ _) (Value.int _ _)) _ _ _); (refine' mul_X ?y8kx ?y8k0 ?y8kn ?_; (case y8kx => first | exact rfl | exact T_blank); (case y8k0 => first | (first | lia | omega) | (simp only [List.length_nil]; (first | lia | omega))); (case y8kn => first | (first | lia | omega) | (simp only [List.length_nil]; (first | lia | omega))); k_whole); intro _ _)
  k_with "subscriptTail Name Slice str ref" =>
    ((with_reducible show wpAny _ _ (subscriptTail _ (PySem.Expr.Slice none (some _) none _) (Value.str (T _) _) _) _ _ _); (with_reducible rename Fr _ _ _ _ => F'); (with_reducible rename News _ _ _ _ => N'); (refine' take_T (s := ⟨_, _, _, _, _⟩) ?y9k0 ?y9k1 ?y9kz F' N' ?_ ?y9ks ?y9kt; (case y9k0 => (first | lia | omega)); (case y9k1 => (first | lia | omega)); (case y9kz => (first | lia | omega)); (case y9ks => with_unfolding_all rfl); (case y9kt => intro _; with_unfolding_all rfl); k_whole); intro h' _ _ F' N')
  k_with "subscriptTail Name Slice str ref" =>
    ((with_reducible show wpAny _ _ (subscriptTail _ (PySem.Expr.Slice (some _) none none _) (Value.str (T _) _) _) _ _ _); (with_reducible rename Fr _ _ _ _ => F'); (with_reducible rename News _ _ _ _ => N'); (refine' drop_T (s := ⟨_, _, _, _, _⟩) ?y10k0 ?y10k1 ?y10kz F' N' ?_ ?y10ks ?y10kt; (case y10k0 => (first | lia | omega)); (case y10k1 => (first | lia | omega)); (case y10kz => (first | lia | omega)); (case y10ks => with_unfolding_all rfl); (case y10kt => intro _; with_unfolding_all rfl); k_whole); intro h' _ _ F' N')
  k_with "call ref" =>
    k_dflt (k_extra "my call")
  k_with "exec While" =>
    k_dflt (k_extra "my while")
  k_with "exec For" =>
    k_dflt (k_extra "my for")
  k_with "pyIter ref" =>
    k_dflt (k_extra "my iter")
  k_with "subscriptTail Name Constant ref int" =>
    k_dflt (k_extra "my item")
  k_with "binaryOp Add ref ref" =>
    (k_here; (show wpAny _ _ (binaryOp Operator.Add (Value.ref _) (Value.ref _)) _ _ _); k_dflt (refine' add_L ?y16k1 ?y16k2 ?y16k3 ?y16k4 ?_ ?y16z; (case y16k1 => k_asm); (case y16k2 => k_asm); (case y16k3 => k_mem); (case y16k4 => k_mem); (case y16z => first | (first | lia | omega) | (simp only [List.length_cons, List.length_nil, List.length_append]; (first | lia | omega))); k_whole); intro c9 h9 F9 N9 l9; (have lA := allLt_of l9); (try k_lt l9); (try dsimp only [List.append_nil, List.nil_append, List.cons_append] at N9); (try k_sweep))
  k_with "subscriptTail Constant" =>
    ((with_reducible show wpAny _ _ (subscriptTail _ (PySem.Expr.Slice (some _) (some _) none _) (Value.str (Str.ofString "abcdefghijklmnopqrst") _) _) _ _ _); (with_reducible rename Fr _ _ _ _ => F'); (with_reducible rename News _ _ _ _ => N'); (refine' cut_X (s := ⟨_, _, _, _, _⟩) alpha_T ?y17k0 ?y17k1 ?y17k2 ?y17kz F' N' ?_ ?y17ks ?y17kt; (case y17k0 => (first | lia | omega)); (case y17k1 => (first | lia | omega)); (case y17k2 => rw [List.length_range']; (first | lia | omega)); (case y17kz => rw [List.length_range']; decide); (case y17ks => with_unfolding_all rfl); (case y17kt => intro _; with_unfolding_all rfl); k_whole); intro h' _ _ F' N')
  k_with "subscriptTail Attribute" =>
    k_dflt (k_extra "my item2")
  k_with "call builtin:len" =>
    (k_here; (with_reducible show wpAny _ _ (call (Value.builtin "len") [Value.ref _]) _ _ _); k_dflt (refine' len_L ?y19k1 ?y19k2 ?y19z ?_; (case y19k1 => k_asm); (case y19k2 => first | k_mem | ((repeat' (first | assumption | refine List.mem_cons_of_mem _ ?_)); done)); (case y19z => first | (first | lia | omega) | ((try simp only [List.length_append, List.length_nil, List.length_cons]); (first | lia | omega))); k_whole))
  k_with "subscriptTail Attribute BinOp ref int" =>
    k_dflt (k_extra "my item2")
  k_with "eval ListComp" =>
    k_dflt (k_extra "my comp")
  k_with "CompSrc" =>
    k_dflt (k_extra "my src")
  k_with "CompSrcT" =>
    k_dflt (k_extra "my srcT")
  k_with "SrcLP" =>
    k_dflt (k_extra "my srcP")
  k_with "CompEnd" =>
    k_dflt (k_extra "my end")
  k_with "call builtin:str.join" =>
    (k_here; (show wpAny _ _ (call (Value.builtin "str.join") [Value.str _ _, Value.ref _]) _ _ _); k_dflt (refine' join_X T_nil ?y26k1 ?y26k2 ?y26k3 ?y26z ?_; (case y26k1 => k_asm); (case y26k2 => k_mem); (case y26k3 => assumption); (case y26z => first | (first | lia | omega) | ((try simp only [List.length_append, List.length_nil, List.length_cons]); (first | lia | omega))); k_whole); intro _ _)
  k_with "call builtin:max" =>
    (k_here; (show wpAny _ _ (call (Value.builtin "max") [Value.ref _]) _ _ _); k_dflt (refine' max_X ?y27k0 ?y27k1 ?y27k2 ?y27k3 ?y27k4 ?y27z ?_; (case y27k0 => rfl); (case y27k1 => k_asm); (case y27k2 => k_asm); (case y27k3 => k_mem); (case y27k4 => assumption); (case y27z => first | (first | lia | omega) | ((try simp only [List.length_map, List.length_append, List.length_nil, List.length_cons]); (first | lia | omega))); k_whole); intro h9 M9 t9 tk9 F9 N9 hM1 hM2; (try k_sweep))
  k_with "call builtin:min" =>
    (k_here; (show wpAny _ _ (call (Value.builtin "min") [Value.ref _]) _ _ _); k_dflt (refine' min_X ?y28k0 ?y28k1 ?y28k2 ?y28k3 ?y28k4 ?y28z ?_; (case y28k0 => rfl); (case y28k1 => k_asm); (case y28k2 => k_asm); (case y28k3 => k_mem); (case y28k4 => assumption); (case y28z => first | (first | lia | omega) | ((try simp only [List.length_map, List.length_append, List.length_nil, List.length_cons]); (first | lia | omega))); k_whole); intro h9 M9 t9 tk9 F9 N9 hM1 hM2; (try k_sweep))
  k_with "compareOp NotEq str str" =>
    ((with_reducible show wpAny _ _ (compareOp CmpOp.NotEq (Value.str (T _) _) (Value.str (T _) _)) _ _ _); (refine' ne_K ?y29kx ?y29ky ?y29ks ?_; (case y29kx => exact rfl); (case y29ky => exact rfl); (case y29ks => assumption); k_whole))
  k_with "assign Tuple" =>
    k_dflt (k_extra "my assign")
  k_with "SelSrc" =>
    k_dflt (k_extra "my sel")
  k_with "compareOp Gt ref ref" =>
    (k_here; (with_reducible show wpAny _ _ (compareOp CmpOp.Gt (Value.ref _) (Value.ref _)) _ _ _); k_dflt (refine' gt_pair ?y33k1 ?y33k2 ?y33k3 ?y33k4 ?_; (case y33k1 => (first | exact roomU (by with_reducible assumption) (by rfl) | exact roomU (by assumption) (by rfl) | ktr_units | ((dsimp only [ak]); ktr_units))); (case y33k2 => k_asm); (case y33k3 => k_mem); (case y33k4 => k_mem); k_whole))
  k_with "subscriptTail Name Slice ref ref" =>
    (k_here; (with_reducible show wpAny _ _ (subscriptTail _ (PySem.Expr.Slice _ _ none _) (Value.ref _) (Value.ref _)) _ _ _); k_dflt (refine' kmk_slice_ints ?y34F ?y34N ?y34l ?y34p ?y34q ?y34i ?y34m ?y34c ?_ ?y34s ?y34t ?y34z; (case y34F => k_asm); (case y34N => k_asm); (case y34l => exact News.isList (by k_asm) (by first | k_mem | (repeat' (first | assumption | refine List.mem_cons_of_mem _ ?_)))); (case y34p => kmk_part); (case y34q => kmk_part); (case y34i => assumption); (case y34m => exact kmk_run (by assumption) (by (first | lia | omega)) (by (first | lia | omega))); (case y34c => exact rfl); (case y34s => with_unfolding_all rfl); (case y34t => kmk_pure); (case y34z => first | assumption | kmk_size)); intro D' ws' h' F' N' l1 hI' hC' hL'; (try k_lt l1); (try k_sweep))
  k_with "call builtin:sum" =>
    (k_here; (with_reducible show wpAny _ _ (call (Value.builtin "sum") [Value.ref _]) _ _ _); k_dflt (refine' sum_X ?y35k0 ?y35k1 ?y35k2 ?y35k3 ?y35k4 ?_; (case y35k0 => rfl); (case y35k1 => k_asm); (case y35k2 => k_asm); (case y35k3 => k_mem); (case y35k4 => assumption); k_whole); intro h' tk' t' F' N'; (try k_sweep))
  k_with "subscriptTail Name Name ref int" =>
    k_dflt (k_extra "my idx")
  k_with "subscriptTail Name Call ref int" =>
    k_dflt (k_extra "my idx")
  k_with "k_ne" =>
    first | with_reducible assumption | exact Ne.symm (by with_reducible assumption) | exact Nat.ne_of_lt (by with_reducible assumption) | exact Nat.ne_of_gt (by with_reducible assumption) | exact neL0 (by with_reducible assumption) | exact neR0 (by with_reducible assumption) | exact neL1 (by with_reducible assumption) | exact neR1 (by with_reducible assumption) | exact neL2 (by with_reducible assumption) | exact neR2 (by with_reducible assumption) | exact neL3 (by with_reducible assumption) | exact neR3 (by with_reducible assumption) | exact neL4 (by with_reducible assumption) | exact neR4 (by with_reducible assumption) | exact neL5 (by with_reducible assumption) | exact neR5 (by with_reducible assumption) | exact neL6 (by with_reducible assumption) | exact neR6 (by with_reducible assumption) | exact neL7 (by with_reducible assumption) | exact neR7 (by with_reducible assumption) | exact neL8 (by with_reducible assumption) | exact neR8 (by with_reducible assumption) | exact neL9 (by with_reducible assumption) | exact neR9 (by with_reducible assumption) | exact neL10 (by with_reducible assumption) | exact neR10 (by with_reducible assumption) | exact neL11 (by with_reducible assumption) | exact neR11 (by with_reducible assumption) | exact neL12 (by with_reducible assumption) | exact neR12 (by with_reducible assumption) | exact neL13 (by with_reducible assumption) | exact neR13 (by with_reducible assumption) | exact neTL0 (by with_reducible assumption) (by with_reducible assumption) | exact neTR0 (by with_reducible assumption) (by with_reducible assumption) | exact neTL1 (by with_reducible assumption) (by with_reducible assumption) | exact neTR1 (by with_reducible assumption) (by with_reducible assumption) | exact neTL2 (by with_reducible assumption) (by with_reducible assumption) | exact neTR2 (by with_reducible assumption) (by with_reducible assumption) | exact neTL3 (by with_reducible assumption) (by with_reducible assumption) | exact neTR3 (by with_reducible assumption) (by with_reducible assumption) | exact neTL4 (by with_reducible assumption) (by with_reducible assumption) | exact neTR4 (by with_reducible assumption) (by with_reducible assumption) | exact neTL5 (by with_reducible assumption) (by with_reducible assumption) | exact neTR5 (by with_reducible assumption) (by with_reducible assumption) | exact neTL6 (by with_reducible assumption) (by with_reducible assumption) | exact neTR6 (by with_reducible assumption) (by with_reducible assumption) | exact neTL7 (by with_reducible assumption) (by with_reducible assumption) | exact neTR7 (by with_reducible assumption) (by with_reducible assumption) | exact neTL8 (by with_reducible assumption) (by with_reducible assumption) | exact neTR8 (by with_reducible assumption) (by with_reducible assumption) | exact neTL9 (by with_reducible assumption) (by with_reducible assumption) | exact neTR9 (by with_reducible assumption) (by with_reducible assumption) | exact neQ0 (by with_reducible assumption) | exact Ne.symm (neQ0 (by with_reducible assumption)) | exact neQ1 (by with_reducible assumption) | exact Ne.symm (neQ1 (by with_reducible assumption)) | exact neQ2 (by with_reducible assumption) | exact Ne.symm (neQ2 (by with_reducible assumption)) | exact neQ3 (by with_reducible assumption) | exact Ne.symm (neQ3 (by with_reducible assumption)) | exact neQ4 (by with_reducible assumption) | exact Ne.symm (neQ4 (by with_reducible assumption)) | exact neQ5 (by with_reducible assumption) | exact Ne.symm (neQ5 (by with_reducible assumption)) | exact neQ6 (by with_reducible assumption) | exact Ne.symm (neQ6 (by with_reducible assumption)) | exact neQ7 (by with_reducible assumption) | exact Ne.symm (neQ7 (by with_reducible assumption)) | exact neQ8 (by with_reducible assumption) | exact Ne.symm (neQ8 (by with_reducible assumption)) | exact neQ9 (by with_reducible assumption) | exact Ne.symm (neQ9 (by with_reducible assumption))
  k_with "my for" =>
    (with_reducible rename News _ _ _ _ => kN)
    (with_reducible rename Fr _ _ _ _ => kF)
    have kM := one_page kN
    (have hA : AllLt d1 own := by assumption)
    clear kN
    (with_unfolding_all refine For_invTF kF ?_ (by intro _; rfl))
  k_with "my call" =>
    (show wpAny _ _ (call (Value.ref 54) []) _ _ _)
    (with_reducible rename News _ _ _ _ => kN)
    (with_unfolding_all refine Ctr.useN (page_new _) (by k_asm) (by k_asm) (by k_asm) kN (by k_asm) (by first | exact rfl | assumption) (by (first | exact roomL (by with_reducible assumption) (by rfl) | exact roomL (by assumption) (by rfl) | ktr_room | ((dsimp only [ak]); ktr_room))) (by (first | exact roomU (by with_reducible assumption) (by rfl) | exact roomU (by assumption) (by rfl) | ktr_units | ((dsimp only [ak]); ktr_units))) ?_)
    clear kN
    intro x1 d1 o1 a1 b1 c1 h9 tk9 lD1 lX1 lO1 F9 N9
    (have lB := lD1)
    (try simp only [AllLt, and_true] at lD1)
    (try simp only [AllLt, and_true] at lO1)
    (try dsimp only)
    (try k_sweep)
  k_with "my call" =>
    (show wpAny _ _ (call (Value.ref 114) [_, _, _, _]) _ _ _)
    (with_reducible rename News _ _ _ _ => kN)
    (with_unfolding_all refine Ctr.useP (write_parts_K x1 d1 o1 _ _ _ _ _ _ _ _ (by first | assumption | k_ne) (by first | assumption | k_ne) (by first | assumption | k_ne) (by repeat' (first | assumption | (refine off_cons3 (by k_ne) (by k_ne) (by k_ne) ?_))) RowsAre.nil _ _ _ (rowParts (txs.map Prod.fst)) 14 width _ _ (by (first | k_mem | (repeat' (first | exact List.Mem.head _ | assumption | refine List.mem_cons_of_mem _ ?_)))) (hps.mono (fun p hp => .tail _ hp)) (by decide) (by decide) (by (first | lia | omega)) (by simp only [List.length_nil]; (first | lia | omega)) (by simp only [List.length_nil]; (first | lia | omega)) _ _ p1) (by k_asm) (by k_asm) (by k_asm) (kN) (by k_asm) (by first | exact rfl | assumption) (by (first | exact roomL (by with_reducible assumption) (by rfl) | exact roomL (by assumption) (by rfl) | ktr_room | ((dsimp only [ak]); ktr_room))) (by (first | exact roomU (by with_reducible assumption) (by rfl) | exact roomU (by assumption) (by rfl) | ktr_units | ((dsimp only [ak]); ktr_units))) ?_)
    clear kN
    intro tr9 vs9 k9 h9 tk9 hv9 F9 N9
    (try dsimp only [PL, List.cons_append, List.nil_append] at N9)
    (try dsimp only)
    (have hlen9 := hv9.len)
    (try k_sweep)
  k_with "my call" =>
    (show wpAny _ _ (call (Value.ref 128) [_]) _ _ _)
    (with_reducible rename News _ _ _ _ => kN)
    (with_unfolding_all refine Ctr.useA (all_rows_ok x1 d1 o1 _ _ _ _ _ _ _ _ (by first | assumption | k_ne) (by first | assumption | k_ne) (by first | assumption | k_ne) (by repeat' (first | assumption | (refine off_cons3 (by k_ne) (by k_ne) (by k_ne) ?_))) (by assumption) (by first | with_reducible assumption | exact Nat.le_trans (by with_reducible assumption) (by decide) | (first | lia | omega) | (simp only [List.length_append, List.length_cons, List.length_nil, List.length_replicate]; (first | lia | omega))) (by first | with_reducible assumption | exact Nat.le_trans (by with_reducible assumption) (by decide) | (first | lia | omega) | (simp only [List.length_append, List.length_cons, List.length_nil, List.length_replicate]; (first | lia | omega)))) (by k_asm) (by k_asm) (by k_asm) (kN) (by k_asm) (by first | exact rfl | assumption) (by (first | exact roomL (by with_reducible assumption) (by rfl) | exact roomL (by assumption) (by rfl) | ktr_room | ((dsimp only [ak]); ktr_room))) (by (first | exact roomU (by with_reducible assumption) (by rfl) | exact roomU (by assumption) (by rfl) | ktr_units | ((dsimp only [ak]); ktr_units))) ?_)
    clear kN
    intro la9 ws9 h9 tk9 lA9 hw9 F9 N9
    (try dsimp only [PL, List.cons_append, List.nil_append] at N9)
    (try dsimp only)
    (have hlen8 := hw9.len)
    (rw [hal] at hlen8)
    (try k_sweep)
  k_with "my call" =>
    (show wpAny _ _ (call (Value.ref 164) [_, _]) _ _ _)
    (with_reducible rename News _ _ _ _ => kN)
    (with_unfolding_all refine Ctr.use (fewest_ok _ ys9 _ ((txs.map Prod.fst).map List.length) width _ _ (by (first | k_mem | (repeat' (first | exact List.Mem.head _ | assumption | refine List.mem_cons_of_mem _ ?_)))) hR9 (by rw [List.length_map, List.length_map]; (first | lia | omega)) (by (first | lia | omega)) (by intro n hn; obtain ⟨t, ht, rfl⟩ := List.mem_map.mp hn; obtain ⟨u, hu, rfl⟩ := List.mem_map.mp ht; exact Nat.le_trans (htx u hu).2 hw)) (by k_asm) (by k_asm) (by k_asm) (kN) (by k_asm) (by first | exact rfl | assumption) (by (first | exact roomL (by with_reducible assumption) (by rfl) | exact roomL (by assumption) (by rfl) | ktr_room | ((dsimp only [ak]); ktr_room))) (by (first | exact roomU (by with_reducible assumption) (by rfl) | exact roomU (by assumption) (by rfl) | ktr_units | ((dsimp only [ak]); ktr_units))) ?_)
    clear kN
    rintro v9 n9 h9 tk9 ⟨fs9, t9, hD9, hfl9, rfl, rfl⟩ F9 N9
    (try dsimp only [PL, List.cons_append, List.nil_append] at N9)
    (try dsimp only)
    (try k_sweep)
  k_with "my comp" =>
    (first
      | ((with_reducible show wpAny _ _ (eval (PySem.Expr.ListComp _ [⟨PySem.Expr.Tuple _ _ _, _, [], 0⟩] _ _) _) _ _ _); refine LCp.ListComp_P (F₀ := by k_asm) (by with_unfolding_all rfl) (by decide) (by rfl) (by decide) (by rfl) (by rfl) (by decide) ?_)
      | ((with_reducible show wpAny _ _ (eval (PySem.Expr.ListComp _ [⟨PySem.Expr.Name _ _, _, [], 0⟩] _ _) _) _ _ _); refine LCg.ListComp_U (F₀ := by k_asm) (by with_unfolding_all rfl) (by decide) (by rfl) (by decide) (by rfl) ?_)
      | ((with_reducible show wpAny _ _ (eval (PySem.Expr.ListComp _ [⟨PySem.Expr.Name _ _, _, [_], 0⟩] _ _) _) _ _ _); refine LCt.ListComp_T (F₀ := by k_asm) (by with_unfolding_all rfl) (by decide) (by rfl) (by decide) (by rfl) ?_))
  k_with "my srcP" =>
    (refine LCp.SrcLP.ledger (by rfl) (by k_asm) (by k_asm) (by repeat' (first | exact hl9 | refine List.mem_cons_of_mem _ ?_)) (by rw [List.size_toArray, hts.len]; exact line_of (by (first | lia | omega))) ?_)
    intro g9
    refine rest_P (fun i ys => IntsAre ys ((txs.take i).map fun t => (t.1.length : Int))) IntsAre.nil ?_ ?_
    intro i v hi hvi
    revert hvi
    revert v
    refine hts.get_k ?_
    intro q x t e hq hxi
    (have hq2 := hsub _ hq)
    (have hx8 := (htx _ (List.mem_of_getElem? hxi)).2)
    (dsimp only at hx8)
    refine ex5 q _ _ _ _ ⟨rfl, (by repeat' (first | exact hq2 | refine List.mem_cons_of_mem _ ?_)), rfl, rfl, ?_⟩
    intro ys I oI C oC D m₂ h7 tk7 E7 hR hC hx hy F7 N7 off ne
    rotate_left
    intro ys9 hR9
    (have e9 : (txs.take tvs.toArray.size).map (fun t => (t.1.length : Int)) = ((txs.map Prod.fst).map List.length).map fun n : Nat => (n : Int) := by rw [List.size_toArray, hts.len, List.take_length]; simp only [List.map_map]; rfl)
    rw [e9] at hR9
    rotate_right
  k_with "my end" =>
    (with_reducible rename News _ _ _ _ => kN)
    (with_reducible rename Fr _ _ _ _ => kF)
    (refine LCg.CompEnd.intro kF kN _ (fun p hp => hp) off (Or.inr ⟨_, (by repeat' (first | exact hl9 | refine List.mem_cons_of_mem _ ?_)), rfl, _, rfl⟩) ⟨rfl, ?_⟩)
    rw [take_snoc hxi, List.map_append]
    exact IntsAre.append hR (.cons _ _ .nil)
  k_with "my iter" =>
    (with_reducible rename Fr _ _ _ _ => kF)
    (refine iter_valTG (RrJ w.params x1 d1 o1 a1 b1 own txs _) (by rfl) (by (repeat' (first | assumption | refine List.mem_cons_of_mem _ ?_))) kF kM (RrJ.zero (off_lt hA (Nat.le_of_lt lX1) (Nat.le_refl _) (Nat.le_of_lt lO1.2.1)) (by k_ne) (by k_ne) (by k_ne) (by with_unfolding_all rfl)) ?_ ?_)
    intro i v I oI m₁ news₁ s₁ hi hoff hl1 hJ F1 N1 Qt hQt
    clear hl1
    revert hoff N1
    revert hJ
    revert news₁
    refine RrJ.elim ?_
    intro lp9 pvs kk own9 tr9 vk9 hps hsub ho9 hp1 hp2 hp3 hK hoff N1
    revert hi
    revert v
    refine hts.get_l ?_
    intro q x t e hq hxi
    have F2 := ksw_fr hK.1 hK.2 F1
    clear F1 kF kM
    have hq2 := hsub _ hq
    have hx8 := htx _ (List.mem_of_getElem? hxi)
    dsimp only at hx8
    have hi9 : i < txs.length := (List.getElem?_eq_some_iff.mp hxi).1
    have hpl := hps.len
    rw [rowParts_len, List.length_map, List.length_take] at hpl
    have hI0 : @Ne Nat x1 I := hoff _ (.head _)
    have hI1 : @Ne Nat d1 I := hoff _ (.tail _ (.head _))
    have hI2 : @Ne Nat o1 I := hoff _ (.tail _ (.tail _ (.head _)))
    have hI3 : @Ne Nat lp9 I := hoff _ (.tail _ (.tail _ (.tail _ (.head _))))
    have hI5 : ∀ p ∈ own9, p.1 ≠ I := fun p hp => hoff p (.tail _ (.tail _ (.tail _ (.tail _ hp))))
    dsimp only [PL] at N1
    have hT : IsTup s₁.heap q #[.str (T x) t, .bool e] := News.isTup N1 (by repeat' (first | exact hq2 | refine List.mem_cons_of_mem _ ?_))
    (try dsimp only)
    rotate_left
    intro m₁ news₁ h9 tk9 hl1 hJ F1 N1
    clear hl1
    revert N1
    revert hJ
    revert news₁
    refine RrJ.elim ?_
    intro lp9 pvs kk own9 tr9 vk9 hps hsub ho9 hp1 hp2 hp3 hK N1
    have F2 := ksw_fr hK.1 hK.2 F1
    clear F1 kF kM
    simp only [hlen, List.take_length] at hps
    have hpl := hps.len
    rw [rowParts_len, List.length_map] at hpl
    have hl9 := hsub _ hl
    obtain ⟨A1, B1, p1, hg1, hg2, nr, hal, hnr, hrf⟩ := greedy_page (w9 := width) (ts := txs.map Prod.fst) hw (by rw [List.length_map]; (first | lia | omega)) (by rw [List.length_map]; (first | lia | omega)) (fun t ht => by obtain ⟨u, hu, rfl⟩ := List.mem_map.mp ht; exact (htx u hu).1) (fun t ht => by obtain ⟨u, hu, rfl⟩ := List.mem_map.mp ht; exact (htx u hu).2)
    have hpn : (rowParts (txs.map Prod.fst)).length ≤ 24 := by rw [rowParts_len, List.length_map]; (first | lia | omega)
    dsimp only [PL] at N1
    (try dsimp only)
    rotate_right
  k_with "my assign" =>
    (refine unpackN_ (by k_asm) (by k_asm) hT (by rfl) (by rfl) (by rfl) ?_)
    intro h' F' N'
    (try k_sweep)
  refine wpAny_call ?_
  k_dflt cell_enter
  (try (refine nameL ?_; intro ak; refine nameE ?_; intro ev))
  repeat' (first | (k_unfold; (try dsimp only)) | walk1 | (dsimp only; walk1) | fail "no step")
  all_goals (rename Fr _ _ _ _ => kF)
  all_goals (rename News _ _ _ _ => kN)
  · refine hQt _ _ (rr_end (c := _) kF kN hps hxi (by (first | lia | omega)) hsub ho9 hl hI5 hI0 hI1 hI2 (by k_ne) (by k_ne) (by k_ne) (by k_ne) (by k_ne) (by k_ne) (by k_ne) (by k_ne) (by k_ne) (by k_ne) (by k_ne) (by k_ne) (by with_unfolding_all rfl) (fun z h1 h2 => keeps_two h1 h2))
  · rw [hlen8, hrf fs9 hD9 hfl9, beq_self_eq_true]
    exact hret _ _ _ _ ⟨rfl, rfl⟩ kF (news_of kN (fun p hp => by repeat' (first | exact hsub _ hp | refine List.mem_cons_of_mem _ ?_)))
end
end
/-! part E13 -/
section
theorem slF (a b : Addr) {h₀ : Heap} {L : Addr} {h : Heap} {oa ob : Obj} {own : Ledger} (N : News h₀ L h ((a, oa) :: (b, ob) :: own)) : News h₀ L h ((a, oa) :: (b, ob) :: own) := N
theorem pgF (a b c : Addr) {h₀ : Heap} {L : Addr} {h : Heap} {oa ob oc : Obj} {own : Ledger} (N : News h₀ L h ((a, oa) :: (b, ob) :: (c, oc) :: own)) : News h₀ L h ((a, oa) :: (b, ob) :: (c, oc) :: own) := N
theorem rotw {h₀ : Heap} {L : Addr} {h : Heap} (A : Ledger) {x y : Addr × Obj} {own : Ledger} (N : News h₀ L h (A ++ x :: y :: own)) : News h₀ L h (x :: y :: (A ++ own)) :=
  newsC N (List.mem_append_right _ (.head _)) (newsC N (List.mem_append_right _ (.tail _ (.head _))) (news_of N fun p hp => (List.mem_append.mp hp).elim (fun h => List.mem_append_left _ h) fun h => List.mem_append_right _ (.tail _ (.tail _ h))))
theorem rotA1 {h₀ : Heap} {L : Addr} {h : Heap} {a x y : Addr × Obj} {own : Ledger} (N : News h₀ L h (a :: x :: y :: own)) : News h₀ L h (x :: y :: a :: own) := rotw (x := x) (y := y) (own := own) [a] N
theorem rotA4 {h₀ : Heap} {L : Addr} {h : Heap} {a b c d x y : Addr × Obj} {own : Ledger} (N : News h₀ L h (a :: b :: c :: d :: x :: y :: own)) : News h₀ L h (x :: y :: a :: b :: c :: d :: own) := rotw (x := x) (y := y) (own := own) [a, b, c, d] N
theorem rot2 {h₀ : Heap} {L : Addr} {h : Heap} {a b x y z : Addr × Obj} {own : Ledger} (N : News h₀ L h (a :: b :: x :: y :: z :: own)) : News h₀ L h (x :: y :: z :: a :: b :: own) := rot (x := x) (y := y) (z := z) (own := own) [a, b] N
theorem rotP3 {h₀ : Heap} {L : Addr} {h : Heap} {a b c x y z : Addr × Obj} {own : Ledger} (N : News h₀ L h (a :: b :: c :: x :: y :: z :: own)) : News h₀ L h (x :: y :: z :: a :: b :: c :: own) := rot (x := x) (y := y) (z := z) (own := own) [a, b, c] N
theorem rotP4 {h₀ : Heap} {L : Addr} {h : Heap} {a b c d x y z : Addr × Obj} {own : Ledger} (N : News h₀ L h (a :: b :: c :: d :: x :: y :: z :: own)) : News h₀ L h (x :: y :: z :: a :: b :: c :: d :: own) := rot (x := x) (y := y) (z := z) (own := own) [a, b, c, d] N
theorem rotP5 {h₀ : Heap} {L : Addr} {h : Heap} {a b c d e x y z : Addr × Obj} {own : Ledger} (N : News h₀ L h (a :: b :: c :: d :: e :: x :: y :: z :: own)) : News h₀ L h (x :: y :: z :: a :: b :: c :: d :: e :: own) := rot (x := x) (y := y) (z := z) (own := own) [a, b, c, d, e] N
theorem TextsIn.app {own : Ledger} {vs vs2 : List Value} {ps ps2 : List (List Nat × Bool)} (h : TextsIn own vs ps) (h2 : TextsIn own vs2 ps2) : TextsIn own (vs ++ vs2) (ps ++ ps2) := by
  induction h with
  | nil => exact h2
  | cons hq _ ih => exact .cons hq ih
theorem TextsIn.snoc {own : Ledger} {vs : List Value} {ps : List (List Nat × Bool)} {ta : Addr} {x : List Nat} {t : Tok} {e : Bool} (h : TextsIn own vs ps) : TextsIn ((ta, tupO [.str (T x) t, .bool e]) :: own) (vs ++ [.ref ta]) (ps ++ [(x, e)]) :=
  (h.mono fun _ hp => .tail _ hp).app (.cons (.head _) .nil)
theorem keeps_in2 {S : List Str} {x y : Str} {a b : Option Value} {u m₀ : Str → Option Value} {z : Str} (hx : S.contains x = true) (hy : S.contains y = true) (hs : S.contains z = false) :
    (if z = x then a else if z = y then b else kstB (fun z => if S.contains z = true then u z else m₀ z) [] z) = m₀ z := by
  have h1 : z ≠ x := by rintro rfl; rw [hx] at hs; exact Bool.noConfusion hs
  have h2 : z ≠ y := by rintro rfl; rw [hy] at hs; exact Bool.noConfusion hs
  rw [if_neg h1, if_neg h2]
  show (if S.contains z = true then _ else _) = _
  rw [hs]
  rfl
theorem keeps_in3 {S : List Str} {x y w : Str} {a b c : Option Value} {u m₀ : Str → Option Value} {z : Str} (hx : S.contains x = true) (hy : S.contains y = true) (hw : S.contains w = true) (hs : S.contains z = false) :
    (if z = x then a else if z = y then b else if z = w then c else kstB (fun z => if S.contains z = true then u z else m₀ z) [] z) = m₀ z := by
  have h1 : z ≠ x := by rintro rfl; rw [hx] at hs; exact Bool.noConfusion hs
  rw [if_neg h1]
  exact keeps_in2 hy hw hs
abbrev ppS : List Str := [Str.ofString "at", Str.ofString "form", Str.ofString "text", Str.ofString "column", Str.ofString "many"]
abbrev PpL (P : Params) (x1 d1 o1 lt sk cel : Addr) (a1 b1 : Tok) (cvs : List Value) (kc : Nat) (turn : Nat) (tt : Tok) (ks : Nat) (D : List Nat) (tr : Tok) (vs : List Value) (k : Nat) (tvs : List Value) (kk : Nat) (own : Ledger) : Ledger :=
  SL sk cel (turn : Int) tt ks cvs kc (PL P x1 d1 o1 a1 b1 D tr vs k ((lt, W.listOf tvs.toArray kk) :: own))
def PpJ (P : Params) (x1 d1 o1 lt sk cel : Addr) (a1 b1 : Tok) (cvs : List Value) (kc turn0 width : Nat) (own : Ledger) (m₀ : Str → Option Value) (i : Nat) (m : Str → Option Value) (nx : Ledger) : Prop :=
  ∃ (turn : Nat) (tt : Tok) (ks : Nat) (C : List (List Nat)) (D : List Nat) (tr : Tok) (vs : List Value) (k : Nat) (tvs : List Value) (kk : Nat) (own9 : Ledger) (txs : List (List Nat × Bool)),
    nx = PpL P x1 d1 o1 lt sk cel a1 b1 cvs kc turn tt ks D tr vs k tvs kk own9 ∧ TextsIn own9 tvs txs ∧ txs.length ≤ i ∧ (∀ t ∈ txs, t.1.length ≤ 8) ∧ (∀ p ∈ own, p ∈ own9) ∧ OwnOff own9 [sk, cel, x1, d1, o1, lt] ∧ turn ≤ turn0 + 4 * i ∧
    RowsAre vs C ∧ PtOk width (C, D) (txs.map Prod.fst).flatten (100 * i) ∧ Keeps [] ppS m₀ m
theorem PpJ.elim {P : Params} {x1 d1 o1 lt sk cel : Addr} {a1 b1 : Tok} {cvs : List Value} {kc turn0 width : Nat} {own : Ledger} {m₀ : Str → Option Value} {i : Nat} {m : Str → Option Value} {G : Ledger → Prop}
    (H : ∀ (turn : Nat) (tt : Tok) (ks : Nat) (C : List (List Nat)) (D : List Nat) (tr : Tok) (vs : List Value) (k : Nat) (tvs : List Value) (kk : Nat) (own9 : Ledger) (txs : List (List Nat × Bool)), TextsIn own9 tvs txs → txs.length ≤ i → (∀ t ∈ txs, t.1.length ≤ 8) → (∀ p ∈ own, p ∈ own9) → OwnOff own9 [sk, cel, x1, d1, o1, lt] → turn ≤ turn0 + 4 * i →
      RowsAre vs C → PtOk width (C, D) (txs.map Prod.fst).flatten (100 * i) → Keeps [] ppS m₀ m → G (PpL P x1 d1 o1 lt sk cel a1 b1 cvs kc turn tt ks D tr vs k tvs kk own9)) : ∀ nx, PpJ P x1 d1 o1 lt sk cel a1 b1 cvs kc turn0 width own m₀ i m nx → G nx := by
  intro nx h
  obtain ⟨turn, tt, ks, C, D, tr, vs, k, tvs, kk, own9, txs, rfl, a, b, c, d, e, f, g, h1, h2⟩ := h
  exact H turn tt ks C D tr vs k tvs kk own9 txs a b c d e f g h1 h2
theorem PpJ.zero {P : Params} {x1 d1 o1 lt sk cel : Addr} {a1 b1 tt tr : Tok} {cvs : List Value} {kc turn width ks : Nat} {own : Ledger} {m₀ : Str → Option Value} (ho : OwnOff own [sk, cel, x1, d1, o1, lt]) :
    PpJ P x1 d1 o1 lt sk cel a1 b1 cvs kc turn width own m₀ 0 m₀ (PpL P x1 d1 o1 lt sk cel a1 b1 cvs kc turn tt ks [] tr [] 0 [] 0 own) :=
  ⟨turn, tt, ks, [], [], tr, [], 0, [], 0, own, [], rfl, .nil, Nat.le_refl _, fun _ h => (nomatch h), fun _ h => h, ho, Nat.le_refl _, RowsAre.nil, PtOk.nil width, ⟨fun q hq => (nomatch hq), fun z _ _ => rfl⟩⟩
theorem pp_end {P : Params} {h₀ h' : Heap} {L x1 d1 o1 lt sk cel I : Addr} {a1 b1 tt tr : Tok} {cvs vs tvs : List Value} {kc turn0 width turn ks k kk i tk : Nat} {own own9 news' : Ledger} {m₀ m' : Str → Option Value} {oI : Obj} {s₁ : Shared} {Q : Flow → Shared → Prop} {C : List (List Nat)} {D : List Nat} {txs : List (List Nat × Bool)}
    (F : Fr h₀ L h' m') (N : News h₀ L h' news') (hI : (I, oI) ∈ news')
    (hs : ∀ p ∈ PpL P x1 d1 o1 lt sk cel a1 b1 cvs kc turn tt ks D tr vs k tvs kk own9, p ∈ news')
    (i1 : @Ne Nat sk I) (i2 : @Ne Nat cel I) (i3 : @Ne Nat x1 I) (i4 : @Ne Nat d1 I) (i5 : @Ne Nat o1 I) (i6 : @Ne Nat lt I) (i7 : ∀ p ∈ own9, p.1 ≠ I)
    (hT : TextsIn own9 tvs txs) (hn : txs.length ≤ i + 1) (ht8 : ∀ t ∈ txs, t.1.length ≤ 8) (hsub : ∀ p ∈ own, p ∈ own9) (ho : OwnOff own9 [sk, cel, x1, d1, o1, lt]) (htu : turn ≤ turn0 + 4 * (i + 1))
    (hv : RowsAre vs C) (hp : PtOk width (C, D) (txs.map Prod.fst).flatten (100 * i + 100)) (hk : ∀ z, ppS.contains z = false → m' z = m₀ z) :
    PostG h₀ L (PpJ P x1 d1 o1 lt sk cel a1 b1 cvs kc turn0 width own m₀ (i + 1)) I oI s₁ Q .next { s₁ with heap := h', toks := tk } := by
  refine EndG.intro F N hI hs ?_ ⟨turn, tt, ks, C, D, tr, vs, k, tvs, kk, own9, txs, rfl, hT, hn, ht8, hsub, ho, htu, hv, hp, ⟨fun q hq => (nomatch hq), fun z _ h => hk z h⟩⟩
  exact offC i1 (offC i2 (offC i3 (offC i4 (offC i5 (offC i6 i7)))))
theorem pp_text {P : Params} {h₀ h' : Heap} {L x1 d1 o1 lt sk cel I ta : Addr} {a1 b1 tt tr t : Tok} {cvs vs tvs : List Value} {kc turn0 width turn ks k kk i tk : Nat} {own own9 : Ledger} {m₀ m' : Str → Option Value} {oI : Obj} {s₁ : Shared} {Q : Flow → Shared → Prop} {C : List (List Nat)} {D x : List Nat} {txs : List (List Nat × Bool)}
    (F : Fr h₀ L h' m') (N : News h₀ L h' ((x1, instObj 54 d1) :: (d1, dictOf (pageD P a1 b1 o1 (.str (T D) tr)) 2) :: (o1, W.listOf vs.toArray k) :: (ta, tupO [.str (T x) t, .bool false]) :: (sk, W.listOf [Value.ref cel, Value.int (turn : Int) tt].toArray ks) :: (cel, W.listOf cvs.toArray kc) :: (I, oI) :: (lt, W.listOf (tvs.toArray.push (.ref ta)) kk) :: own9))
    (i1 : @Ne Nat sk I) (i2 : @Ne Nat cel I) (i3 : @Ne Nat x1 I) (i4 : @Ne Nat d1 I) (i5 : @Ne Nat o1 I) (i6 : @Ne Nat lt I) (i7 : ∀ p ∈ own9, p.1 ≠ I)
    (j0 : @Ne Nat ta I) (j1 : @Ne Nat ta sk) (j2 : @Ne Nat ta cel) (j3 : @Ne Nat ta x1) (j4 : @Ne Nat ta d1) (j5 : @Ne Nat ta o1) (j6 : @Ne Nat ta lt)
    (hT : TextsIn own9 tvs txs) (hn : txs.length ≤ i) (ht8 : ∀ t ∈ txs, t.1.length ≤ 8) (hx : x.length ≤ 8) (hsub : ∀ p ∈ own, p ∈ own9) (ho : OwnOff own9 [sk, cel, x1, d1, o1, lt]) (htu : turn ≤ turn0 + 4 * (i + 1))
    (hv : RowsAre vs C) (hp : PtOk width (C, D) ((txs.map Prod.fst).flatten ++ x) (100 * i + 100)) (hk : ∀ z, ppS.contains z = false → m' z = m₀ z) :
    PostG h₀ L (PpJ P x1 d1 o1 lt sk cel a1 b1 cvs kc turn0 width own m₀ (i + 1)) I oI s₁ Q .next { s₁ with heap := h', toks := tk } := by
  simp only [List.push_toArray] at N
  refine pp_end (turn := turn) (tt := tt) (ks := ks) (tr := tr) (vs := vs) (k := k) (tvs := tvs ++ [.ref ta]) (kk := kk) (own9 := (ta, tupO [.str (T x) t, .bool false]) :: own9) (C := C) (D := D) (txs := txs ++ [(x, false)]) F N ?_ ?_ i1 i2 i3 i4 i5 i6 ?_ hT.snoc ?_ ?_ (fun p hp => .tail _ (hsub p hp)) ?_ htu hv ?_ hk
  · (repeat' (first | exact List.Mem.head _ | refine List.mem_cons_of_mem _ ?_))
  · dsimp only [PpL, SL, PL]
    (repeat' (first | (intro q hq; (repeat' (first | exact hq | refine List.mem_cons_of_mem _ ?_)); done) | refine subC (by k_mem) ?_))
  · exact offC j0 i7
  · rw [List.length_append]; exact Nat.succ_le_succ hn
  · intro u hu
    rcases List.mem_append.mp hu with hu | hu
    · exact ht8 u hu
    · rw [List.mem_singleton.mp hu]; exact hx
  · exact offN (neC j1 (neC j2 (neC j3 (neC j4 (neC j5 (neC j6 neNil)))))) ho
  · rw [List.map_append, List.flatten_append]
    have e : (List.map Prod.fst [(x, false)]).flatten = x := by simp
    rw [e]
    exact hp
theorem pp_same {P : Params} {h₀ h' : Heap} {L x1 d1 o1 lt sk cel I ja jb : Addr} {a1 b1 tt tr : Tok} {cvs vs tvs : List Value} {kc turn0 width turn ks k kk i tk : Nat} {own own9 : Ledger} {m₀ m' : Str → Option Value} {oI oa ob : Obj} {s₁ : Shared} {Q : Flow → Shared → Prop} {C : List (List Nat)} {D : List Nat} {txs : List (List Nat × Bool)}
    (F : Fr h₀ L h' m') (N : News h₀ L h' ((x1, instObj 54 d1) :: (d1, dictOf (pageD P a1 b1 o1 (.str (T D) tr)) 2) :: (o1, W.listOf vs.toArray k) :: (ja, oa) :: (jb, ob) :: (sk, W.listOf [Value.ref cel, Value.int (turn : Int) tt].toArray ks) :: (cel, W.listOf cvs.toArray kc) :: (I, oI) :: (lt, W.listOf tvs.toArray kk) :: own9))
    (i1 : @Ne Nat sk I) (i2 : @Ne Nat cel I) (i3 : @Ne Nat x1 I) (i4 : @Ne Nat d1 I) (i5 : @Ne Nat o1 I) (i6 : @Ne Nat lt I) (i7 : ∀ p ∈ own9, p.1 ≠ I)
    (hT : TextsIn own9 tvs txs) (hn : txs.length ≤ i) (ht8 : ∀ t ∈ txs, t.1.length ≤ 8) (hsub : ∀ p ∈ own, p ∈ own9) (ho : OwnOff own9 [sk, cel, x1, d1, o1, lt]) (htu : turn ≤ turn0 + 4 * (i + 1))
    (hv : RowsAre vs C) (hp : PtOk width (C, D) (txs.map Prod.fst).flatten (100 * i + 100)) (hk : ∀ z, ppS.contains z = false → m' z = m₀ z) :
    PostG h₀ L (PpJ P x1 d1 o1 lt sk cel a1 b1 cvs kc turn0 width own m₀ (i + 1)) I oI s₁ Q .next { s₁ with heap := h', toks := tk } := by
  refine pp_end (turn := turn) (tt := tt) (ks := ks) (tr := tr) (vs := vs) (k := k) (tvs := tvs) (kk := kk) (own9 := own9) (C := C) (D := D) (txs := txs) F N ?_ ?_ i1 i2 i3 i4 i5 i6 i7 hT (Nat.le_succ_of_le hn) ht8 hsub ho htu hv hp hk
  · (repeat' (first | exact List.Mem.head _ | refine List.mem_cons_of_mem _ ?_))
  · dsimp only [PpL, SL, PL]
    (repeat' (first | (intro q hq; (repeat' (first | exact hq | refine List.mem_cons_of_mem _ ?_)); done) | refine subC (by k_mem) ?_))
theorem bad_zone {a b : Int} (h : a.fmod b = 0) (g : 0 < a.fmod b) : False := by rw [h] at g; exact absurd g (by decide)
theorem bad_zone2 {width zone : Nat} {D : List Nat} (h : 0 < width → D ≠ [] → D.length + zone ≤ width) (g1 : (0 : Int) < (width : Int)) (g2 : D ≠ []) (g3 : (width : Int) < (D.length : Int) + (zone : Int)) : False := by
  have := h (by (first | lia | omega)) g2
  (first | lia | omega)
theorem bad_tab {width c : Nat} {D : List Nat} (h : 0 < width → (D.length : Int) = Int.fmod (c : Int) (width : Int)) (g1 : (0 : Int) < (width : Int)) (g2 : (D.length : Int) ≠ Int.fmod (c : Int) (width : Int)) : False := g2 (h (by (first | lia | omega)))
theorem bad_tab2 {width c : Nat} {D : List Nat} (h : width = 0 → D.length = c) (g1 : ¬ (0 : Int) < (width : Int)) (g2 : (D.length : Int) ≠ (c : Int)) : False := g2 (by rw [h (by (first | lia | omega))])
theorem bad_spc {width c : Nat} {D : List Nat} (h : width = 0 → c ≤ D.length ∧ D.drop (D.length - c) = List.replicate c 32) (g1 : (width : Int) = 0) (g2 : D.drop ((D.length : Int) - (c : Int)).toNat ≠ List.replicate (c : Int).toNat 32) : False := by
  obtain ⟨h1, h2⟩ := h (by (first | lia | omega))
  refine g2 ?_
  rw [Int.toNat_sub, Int.toNat_natCast]
  exact h2
theorem off_sub {own : Ledger} {a b : List Addr} (h : OwnOff own a) (hs : ∀ x ∈ b, x ∈ a) : OwnOff own b := fun p hp x hx => h p hp x (hs x hx)
theorem off_six {own : Ledger} {sk cel x d o l : Addr} (ho : OwnOff own [sk, cel]) (h : AllLt d own) (h1 : @LE.le Nat _ d x) (h2 : @LE.le Nat _ d o) (h3 : @LE.le Nat _ d l) : OwnOff own [sk, cel, x, d, o, l] := by
  have ha := off_lt h h1 (Nat.le_refl _) h2
  have hb := off_lt h h3 h3 h3
  intro p hp b hb9
  simp only [List.mem_cons, List.not_mem_nil, or_false] at hb9
  rcases hb9 with e | e | e | e | e | e <;> subst e
  · exact ho p hp _ (.head _)
  · exact ho p hp _ (.tail _ (.head _))
  · exact ha p hp _ (.head _)
  · exact ha p hp _ (.tail _ (.head _))
  · exact ha p hp _ (.tail _ (.tail _ (.head _)))
  · exact hb p hp _ (.head _)
section
variable {prog : Program} {w : World} {p : Program} {loose : List Str} {mean : ExcName → Option Value} {mg mb : Str → Option Value}
theorem parts_right_ok (sk cel : Addr) (turn : Nat) (tt : Tok) (ks kc : Nat) (cvs : List Value) (ns : List Int) (zone width : Nat) (tz tw : Tok) (own : Ledger) (h1 : @Ne Nat sk cel) (ho : OwnOff own [sk, cel]) (hI : IntsAre cvs ns) (hn : ns.length ≤ 100) (ht : turn ≤ 500) (hz : 2 ≤ zone) (hz2 : zone ≤ 7) (hw2 : width ≤ 1000) :
  Ctr prog w p loose mean mg mb 174 9 [.ref sk, .int (zone : Int) tz, .int (width : Int) tw]
    (SL sk cel turn tt ks cvs kc own)
    (fun v _ => v = .bool true) := by
  refine Ctr.of ?_
  intro dp un gd cn cs a ccd cl outer A₀ base h₀ L m hp gn dr tk0 os0 Q E B F X N Tp hk hdp hun hret
  (try dsimp only [PL] at N hret)
  w_on
  k_with_none
  k_with "call builtin:list.append" =>
    (k_here; (show wpAny _ _ (call (Value.builtin "list.append") [Value.ref _, _]) _ _ _); k_dflt (refine' append_K ?y1k1 ?y1k2 ?y1k3 ?_ ?y1z; (case y1k1 => k_asm); (case y1k2 => k_asm); (case y1k3 => k_upd); (case y1z => first | size_fits | (simp only [List.size_toArray, sizeLine_eq]; (first | lia | omega))); k_whole); intro h' F' N'; (try k_sweep))
  k_with "call builtin:len" =>
    ((with_reducible show wpAny _ _ (call (Value.builtin "len") [Value.str _ _]) _ _ _); (refine' len_X ?y2kx ?y2kz ?_; (case y2kx => first | exact rfl | exact T_nil | exact T_blank); (case y2kz => first | (first | lia | omega) | ((try simp only [List.length_append, List.length_replicate, List.length_nil, List.length_cons, List.length_take, List.length_drop]); (first | lia | omega))); k_whole))
  k_with "binaryOp Add str str" =>
    ((with_reducible show wpAny _ _ (binaryOp Operator.Add (Value.str _ _) (Value.str _ _)) _ _ _); (refine' add_X ?y3kx ?y3ky ?y3kz ?_; (case y3kx => first | exact rfl | exact T_nil | exact T_blank); (case y3ky => first | exact rfl | exact T_nil | exact T_blank); (case y3kz => first | (first | lia | omega) | ((try simp only [List.length_append, List.length_replicate, List.length_nil, List.length_cons, List.length_take, List.length_drop]); (first | lia | omega))); k_whole); intro _ _)
  k_with "compareOp Eq str str" =>
    ((with_reducible show wpAny _ _ (compareOp CmpOp.Eq (Value.str (T _) _) (Value.str _ _)) _ _ _); (refine' eq_X ?y4kx ?y4ky ?_; (case y4kx => first | exact rfl | exact T_nil | exact T_blank); (case y4ky => first | exact rfl | exact T_nil | exact T_blank); k_whole))
  k_with "compareOp Eq str str" =>
    ((with_reducible show wpAny _ _ (compareOp CmpOp.Eq (Value.str _ _) (Value.str (T _) _)) _ _ _); (refine' eq_X ?y5kx ?y5ky ?_; (case y5kx => first | exact rfl | exact T_nil | exact T_blank); (case y5ky => first | exact rfl | exact T_nil | exact T_blank); k_whole))
  k_with "compareOp NotEq str str" =>
    ((with_reducible show wpAny _ _ (compareOp CmpOp.NotEq (Value.str (T _) _) (Value.str _ _)) _ _ _); (refine' ne_X ?y6kx ?y6ky ?_; (case y6kx => first | exact rfl | exact T_nil | exact T_blank); (case y6ky => first | exact rfl | exact T_nil | exact T_blank); k_whole))
  k_with "compareOp NotEq str str" =>
    ((with_reducible show wpAny _ _ (compareOp CmpOp.NotEq (Value.str _ _) (Value.str (T _) _)) _ _ _); (refine' ne_X ?y7kx ?y7ky ?_; (case y7kx => first | exact rfl | exact T_nil | exact T_blank); (case y7ky => first | exact rfl | exact T_nil | exact T_blank); k_whole))
  k_with "binaryOp Mult str int" =>
    ((with_reducible show wpAny _ _ (binaryOp Operator.Mult (Value.str _ _) (Value.int _ _)) _ _ _); (refine' mul_X ?y8kx ?y8k0 ?y8kn ?_; (case y8kx => first | exact rfl | exact T_blank); (case y8k0 => first | (first | lia | omega) | (simp only [List.length_nil]; (first | lia | omega))); (case y8kn => first | (first | lia | omega) | (simp only [List.length_nil]; (first | lia | omega))); k_whole); intro _ _)
  k_with "subscriptTail Name Slice str ref" =>
    ((with_reducible show wpAny _ _ (subscriptTail _ (PySem.Expr.Slice none (some _) none _) (Value.str (T _) _) _) _ _ _); (with_reducible rename Fr _ _ _ _ => F'); (with_reducible rename News _ _ _ _ => N'); (refine' take_T (s := ⟨_, _, _, _, _⟩) ?y9k0 ?y9k1 ?y9kz F' N' ?_ ?y9ks ?y9kt; (case y9k0 => (first | lia | omega)); (case y9k1 => (first | lia | omega)); (case y9kz => (first | lia | omega)); (case y9ks => with_unfolding_all rfl); (case y9kt => intro _; with_unfolding_all rfl); k_whole); intro h' _ _ F' N')
  k_with "subscriptTail Name Slice str ref" =>
    ((with_reducible show wpAny _ _ (subscriptTail _ (PySem.Expr.Slice (some _) none none _) (Value.str (T _) _) _) _ _ _); (with_reducible rename Fr _ _ _ _ => F'); (with_reducible rename News _ _ _ _ => N'); (refine' drop_T (s := ⟨_, _, _, _, _⟩) ?y10k0 ?y10k1 ?y10kz F' N' ?_ ?y10ks ?y10kt; (case y10k0 => (first | lia | omega)); (case y10k1 => (first | lia | omega)); (case y10kz => (first | lia | omega)); (case y10ks => with_unfolding_all rfl); (case y10kt => intro _; with_unfolding_all rfl); k_whole); intro h' _ _ F' N')
  k_with "call ref" =>
    k_dflt (k_extra "my call")
  k_with "exec While" =>
    k_dflt (k_extra "my while")
  k_with "exec For" =>
    k_dflt (k_extra "my for")
  k_with "pyIter ref" =>
    k_dflt (k_extra "my iter")
  k_with "subscriptTail Name Constant ref int" =>
    k_dflt (k_extra "my item")
  k_with "binaryOp Add ref ref" =>
    (k_here; (show wpAny _ _ (binaryOp Operator.Add (Value.ref _) (Value.ref _)) _ _ _); k_dflt (refine' add_L ?y16k1 ?y16k2 ?y16k3 ?y16k4 ?_ ?y16z; (case y16k1 => k_asm); (case y16k2 => k_asm); (case y16k3 => k_mem); (case y16k4 => k_mem); (case y16z => first | (first | lia | omega) | (simp only [List.length_cons, List.length_nil, List.length_append]; (first | lia | omega))); k_whole); intro c9 h9 F9 N9 l9; (have lA := allLt_of l9); (try k_lt l9); (try dsimp only [List.append_nil, List.nil_append, List.cons_append] at N9); (try k_sweep))
  k_with "subscriptTail Constant" =>
    ((with_reducible show wpAny _ _ (subscriptTail _ (PySem.Expr.Slice (some _) (some _) none _) (Value.str (Str.ofString "abcdefghijklmnopqrst") _) _) _ _ _); (with_reducible rename Fr _ _ _ _ => F'); (with_reducible rename News _ _ _ _ => N'); (refine' cut_X (s := ⟨_, _, _, _, _⟩) alpha_T ?y17k0 ?y17k1 ?y17k2 ?y17kz F' N' ?_ ?y17ks ?y17kt; (case y17k0 => (first | lia | omega)); (case y17k1 => (first | lia | omega)); (case y17k2 => rw [List.length_range']; (first | lia | omega)); (case y17kz => rw [List.length_range']; decide); (case y17ks => with_unfolding_all rfl); (case y17kt => intro _; with_unfolding_all rfl); k_whole); intro h' _ _ F' N')
  k_with "subscriptTail Attribute" =>
    k_dflt (k_extra "my item2")
  k_with "call builtin:len" =>
    (k_here; (with_reducible show wpAny _ _ (call (Value.builtin "len") [Value.ref _]) _ _ _); k_dflt (refine' len_L ?y19k1 ?y19k2 ?y19z ?_; (case y19k1 => k_asm); (case y19k2 => first | k_mem | ((repeat' (first | assumption | refine List.mem_cons_of_mem _ ?_)); done)); (case y19z => first | (first | lia | omega) | ((try simp only [List.length_append, List.length_nil, List.length_cons]); (first | lia | omega))); k_whole))
  k_with "subscriptTail Attribute BinOp ref int" =>
    k_dflt (k_extra "my item2")
  k_with "eval ListComp" =>
    k_dflt (k_extra "my comp")
  k_with "CompSrc" =>
    k_dflt (k_extra "my src")
  k_with "CompSrcT" =>
    k_dflt (k_extra "my srcT")
  k_with "SrcLP" =>
    k_dflt (k_extra "my srcP")
  k_with "CompEnd" =>
    k_dflt (k_extra "my end")
  k_with "call builtin:str.join" =>
    (k_here; (show wpAny _ _ (call (Value.builtin "str.join") [Value.str _ _, Value.ref _]) _ _ _); k_dflt (refine' join_X T_nil ?y26k1 ?y26k2 ?y26k3 ?y26z ?_; (case y26k1 => k_asm); (case y26k2 => k_mem); (case y26k3 => assumption); (case y26z => first | (first | lia | omega) | ((try simp only [List.length_append, List.length_nil, List.length_cons]); (first | lia | omega))); k_whole); intro _ _)
  k_with "call builtin:max" =>
    (k_here; (show wpAny _ _ (call (Value.builtin "max") [Value.ref _]) _ _ _); k_dflt (refine' max_X ?y27k0 ?y27k1 ?y27k2 ?y27k3 ?y27k4 ?y27z ?_; (case y27k0 => rfl); (case y27k1 => k_asm); (case y27k2 => k_asm); (case y27k3 => k_mem); (case y27k4 => assumption); (case y27z => first | (first | lia | omega) | ((try simp only [List.length_map, List.length_append, List.length_nil, List.length_cons]); (first | lia | omega))); k_whole); intro h9 M9 t9 tk9 F9 N9 hM1 hM2; (try k_sweep))
  k_with "call builtin:min" =>
    (k_here; (show wpAny _ _ (call (Value.builtin "min") [Value.ref _]) _ _ _); k_dflt (refine' min_X ?y28k0 ?y28k1 ?y28k2 ?y28k3 ?y28k4 ?y28z ?_; (case y28k0 => rfl); (case y28k1 => k_asm); (case y28k2 => k_asm); (case y28k3 => k_mem); (case y28k4 => assumption); (case y28z => first | (first | lia | omega) | ((try simp only [List.length_map, List.length_append, List.length_nil, List.length_cons]); (first | lia | omega))); k_whole); intro h9 M9 t9 tk9 F9 N9 hM1 hM2; (try k_sweep))
  k_with "compareOp NotEq str str" =>
    ((with_reducible show wpAny _ _ (compareOp CmpOp.NotEq (Value.str (T _) _) (Value.str (T _) _)) _ _ _); (refine' ne_K ?y29kx ?y29ky ?y29ks ?_; (case y29kx => exact rfl); (case y29ky => exact rfl); (case y29ks => assumption); k_whole))
  k_with "assign Tuple" =>
    k_dflt (k_extra "my assign")
  k_with "SelSrc" =>
    k_dflt (k_extra "my sel")
  k_with "compareOp Gt ref ref" =>
    (k_here; (with_reducible show wpAny _ _ (compareOp CmpOp.Gt (Value.ref _) (Value.ref _)) _ _ _); k_dflt (refine' gt_pair ?y33k1 ?y33k2 ?y33k3 ?y33k4 ?_; (case y33k1 => (first | exact roomU (by with_reducible assumption) (by rfl) | exact roomU (by assumption) (by rfl) | ktr_units | ((dsimp only [ak]); ktr_units))); (case y33k2 => k_asm); (case y33k3 => k_mem); (case y33k4 => k_mem); k_whole))
  k_with "subscriptTail Name Slice ref ref" =>
    (k_here; (with_reducible show wpAny _ _ (subscriptTail _ (PySem.Expr.Slice _ _ none _) (Value.ref _) (Value.ref _)) _ _ _); k_dflt (refine' kmk_slice_ints ?y34F ?y34N ?y34l ?y34p ?y34q ?y34i ?y34m ?y34c ?_ ?y34s ?y34t ?y34z; (case y34F => k_asm); (case y34N => k_asm); (case y34l => exact News.isList (by k_asm) (by first | k_mem | (repeat' (first | assumption | refine List.mem_cons_of_mem _ ?_)))); (case y34p => kmk_part); (case y34q => kmk_part); (case y34i => assumption); (case y34m => exact kmk_run (by assumption) (by (first | lia | omega)) (by (first | lia | omega))); (case y34c => exact rfl); (case y34s => with_unfolding_all rfl); (case y34t => kmk_pure); (case y34z => first | assumption | kmk_size)); intro D' ws' h' F' N' l1 hI' hC' hL'; (try k_lt l1); (try k_sweep))
  k_with "call builtin:sum" =>
    (k_here; (with_reducible show wpAny _ _ (call (Value.builtin "sum") [Value.ref _]) _ _ _); k_dflt (refine' sum_X ?y35k0 ?y35k1 ?y35k2 ?y35k3 ?y35k4 ?_; (case y35k0 => rfl); (case y35k1 => k_asm); (case y35k2 => k_asm); (case y35k3 => k_mem); (case y35k4 => assumption); k_whole); intro h' tk' t' F' N'; (try k_sweep))
  k_with "subscriptTail Name Name ref int" =>
    k_dflt (k_extra "my idx")
  k_with "subscriptTail Name Call ref int" =>
    k_dflt (k_extra "my idx")
  k_with "ite" =>
    (k_here; k_openite; first | refine ite_pos (by with_reducible assumption) ?_ | refine ite_neg (by with_reducible assumption) ?_ | with_reducible refine ite_tt ?_ | with_reducible refine ite_ff ?_ | ((with_reducible refine split_ine ?_ ?_) <;> intro _) | ((with_reducible refine split_ieq ?_ ?_) <;> intro _) | ((with_reducible refine split_dec ?_ ?_) <;> intro _))
  k_with "call type:range" =>
    ((rename Fr _ _ _ _ => F'); (rename News _ _ _ _ => N'); (with_unfolding_all refine range1_rows F' N' ?_; intro _ _ _ _ _ _ _ _ _))
  k_with "call builtin:str.join" =>
    (k_here; (show wpAny _ _ (call (Value.builtin "str.join") [Value.str _ _, Value.ref _]) _ _ _); k_dflt (refine' join_XK T_nil ?k1 ?k2 ?k3 ?z ?_; (case k1 => k_asm); (case k2 => k_mem); (case k3 => assumption); (case z => first | (first | lia | omega) | ((try simp only [List.length_append, List.length_nil, List.length_cons]); (first | lia | omega))); k_whole); intro _ _ hk9; (try dsimp only at hk9))
  k_with "call builtin:str.replace" =>
    k_dflt (k_extra "my replace")
  k_with "execs nil" =>
    ((with_reducible show wpAny _ _ _ _ _ (Shared.mk _ _ _ (_ + 1) _)); (with_reducible refine toks_any ?_); intro tk9)
  k_with "execs cons" =>
    ((with_reducible show wpAny _ _ _ _ _ (Shared.mk _ _ _ (_ + 1) _)); (with_reducible refine toks_any ?_); intro tk9)
  k_with "call builtin:max" =>
    (k_here; (show wpAny _ _ (call (Value.builtin "max") [Value.ref _]) _ _ _); k_dflt (refine' max_X ?k0 ?k1 ?k2 ?k3 ?k4 ?z ?_; (case k0 => rfl); (case k1 => k_asm); (case k2 => k_asm); (case k3 => k_mem); (case k4 => exact IntsAre.append (by assumption) (.cons _ _ .nil)); (case z => first | (first | lia | omega) | ((try simp only [List.length_map, List.length_append, List.length_nil, List.length_cons]); (first | lia | omega))); k_whole); intro h9 M9 t9 tk9 F9 N9 hM1 hM2; (try k_sweep))
  k_with "exec For Name Call cons nil" =>
    k_dflt (k_extra "my for")
  k_with "k_ne" =>
    first | with_reducible assumption | exact Ne.symm (by with_reducible assumption) | exact Nat.ne_of_lt (by with_reducible assumption) | exact Nat.ne_of_gt (by with_reducible assumption) | exact neL0 (by with_reducible assumption) | exact neR0 (by with_reducible assumption) | exact neL1 (by with_reducible assumption) | exact neR1 (by with_reducible assumption) | exact neL2 (by with_reducible assumption) | exact neR2 (by with_reducible assumption) | exact neL3 (by with_reducible assumption) | exact neR3 (by with_reducible assumption) | exact neL4 (by with_reducible assumption) | exact neR4 (by with_reducible assumption) | exact neL5 (by with_reducible assumption) | exact neR5 (by with_reducible assumption) | exact neL6 (by with_reducible assumption) | exact neR6 (by with_reducible assumption) | exact neL7 (by with_reducible assumption) | exact neR7 (by with_reducible assumption) | exact neL8 (by with_reducible assumption) | exact neR8 (by with_reducible assumption) | exact neL9 (by with_reducible assumption) | exact neR9 (by with_reducible assumption) | exact neL10 (by with_reducible assumption) | exact neR10 (by with_reducible assumption) | exact neL11 (by with_reducible assumption) | exact neR11 (by with_reducible assumption) | exact neL12 (by with_reducible assumption) | exact neR12 (by with_reducible assumption) | exact neL13 (by with_reducible assumption) | exact neR13 (by with_reducible assumption) | exact neTL0 (by with_reducible assumption) (by with_reducible assumption) | exact neTR0 (by with_reducible assumption) (by with_reducible assumption) | exact neTL1 (by with_reducible assumption) (by with_reducible assumption) | exact neTR1 (by with_reducible assumption) (by with_reducible assumption) | exact neTL2 (by with_reducible assumption) (by with_reducible assumption) | exact neTR2 (by with_reducible assumption) (by with_reducible assumption) | exact neTL3 (by with_reducible assumption) (by with_reducible assumption) | exact neTR3 (by with_reducible assumption) (by with_reducible assumption) | exact neTL4 (by with_reducible assumption) (by with_reducible assumption) | exact neTR4 (by with_reducible assumption) (by with_reducible assumption) | exact neTL5 (by with_reducible assumption) (by with_reducible assumption) | exact neTR5 (by with_reducible assumption) (by with_reducible assumption) | exact neTL6 (by with_reducible assumption) (by with_reducible assumption) | exact neTR6 (by with_reducible assumption) (by with_reducible assumption) | exact neTL7 (by with_reducible assumption) (by with_reducible assumption) | exact neTR7 (by with_reducible assumption) (by with_reducible assumption) | exact neTL8 (by with_reducible assumption) (by with_reducible assumption) | exact neTR8 (by with_reducible assumption) (by with_reducible assumption) | exact neTL9 (by with_reducible assumption) (by with_reducible assumption) | exact neTR9 (by with_reducible assumption) (by with_reducible assumption) | exact neQ0 (by with_reducible assumption) | exact Ne.symm (neQ0 (by with_reducible assumption)) | exact neQ1 (by with_reducible assumption) | exact Ne.symm (neQ1 (by with_reducible assumption)) | exact neQ2 (by with_reducible assumption) | exact Ne.symm (neQ2 (by with_reducible assumption)) | exact neQ3 (by with_reducible assumption) | exact Ne.symm (neQ3 (by with_reducible assumption)) | exact neQ4 (by with_reducible assumption) | exact Ne.symm (neQ4 (by with_reducible assumption)) | exact neQ5 (by with_reducible assumption) | exact Ne.symm (neQ5 (by with_reducible assumption)) | exact neQ6 (by with_reducible assumption) | exact Ne.symm (neQ6 (by with_reducible assumption)) | exact neQ7 (by with_reducible assumption) | exact Ne.symm (neQ7 (by with_reducible assumption)) | exact neQ8 (by with_reducible assumption) | exact Ne.symm (neQ8 (by with_reducible assumption)) | exact neQ9 (by with_reducible assumption) | exact Ne.symm (neQ9 (by with_reducible assumption))
  k_with "my for" =>
    (with_reducible rename News _ _ _ _ => kN)
    (with_reducible rename Fr _ _ _ _ => kF)
    (try simp only [SL] at kN)
    have kM := one_page kN
    (dsimp only [PL] at kM)
    have hoo : ∀ l : Addr, (@LE.le Nat _ d1 l) → OwnOff own [sk, cel, x1, d1, o1, l] := fun l hl9 => off_six ho (show AllLt d1 (SL sk cel turn tt ks cvs kc own) by with_reducible assumption).2.2 (by (first | lia | omega)) (by (first | lia | omega)) hl9
    clear kN
    (with_unfolding_all refine For_invVF kF (by rfl) (by rfl) ?_)
  k_with "my call" =>
    (show wpAny _ _ (call (Value.ref 54) []) _ _ _)
    (with_reducible rename News _ _ _ _ => kN)
    (with_unfolding_all refine Ctr.useN (page_new _) (by k_asm) (by k_asm) (by k_asm) kN (by k_asm) (by first | exact rfl | assumption) (by (first | exact roomL (by with_reducible assumption) (by rfl) | exact roomL (by assumption) (by rfl) | ktr_room | ((dsimp only [ak]); ktr_room))) (by (first | exact roomU (by with_reducible assumption) (by rfl) | exact roomU (by assumption) (by rfl) | ktr_units | ((dsimp only [ak]); ktr_units))) ?_)
    clear kN
    intro x1 d1 o1 a1 b1 c1 h9 tk9 lD1 lX1 lO1 F9 N9
    (have lB := lD1)
    (try simp only [AllLt, and_true] at lD1)
    (try simp only [AllLt, and_true] at lO1)
    (try dsimp only)
    (try k_sweep)
  k_with "my call" =>
    (with_reducible show wpAny _ _ (call (Value.ref 135) [Value.ref sk, Value.int 4 _]) _ _ _)
    (with_reducible rename News _ _ _ _ => kN)
    (with_reducible first | (have kP := slF sk cel kN) | (have kP := slF sk cel (rotA1 kN)) | (have kP := slF sk cel (rotA4 kN)))
    (with_unfolding_all refine Ctr.useT (take_ok sk cel _ 4 _ _ _ _ _ _ _ (by k_ne) (by repeat' (first | assumption | (refine off_cons2 (by k_ne) (by k_ne) ?_))) (by with_reducible assumption) (by with_reducible assumption) (by (first | lia | omega)) (by decide) (by decide)) (by k_asm) (by k_asm) (by k_asm) kP (by k_asm) (by first | exact rfl | assumption) (by (first | exact roomL (by with_reducible assumption) (by rfl) | exact roomL (by assumption) (by rfl) | ktr_room | ((dsimp only [ak]); ktr_room))) (by (first | exact roomU (by with_reducible assumption) (by rfl) | exact roomU (by assumption) (by rfl) | ktr_units | ((dsimp only [ak]); ktr_units))) ?_)
    clear kN kP
    intro r9 tx9 tt9 ks9 h9 tk9 hr9 F9 N9
    (try dsimp only [SL, PL] at N9)
    (try dsimp only)
    (try k_sweep)
  k_with "my call" =>
    (with_reducible show wpAny _ _ (call (Value.ref 135) [Value.ref sk, Value.int 40 _]) _ _ _)
    (with_reducible rename News _ _ _ _ => kN)
    (with_reducible first | (have kP := slF sk cel kN) | (have kP := slF sk cel (rotA1 kN)) | (have kP := slF sk cel (rotA4 kN)))
    (with_unfolding_all refine Ctr.useT (take_ok sk cel _ 40 _ _ _ _ _ _ _ (by k_ne) (by repeat' (first | assumption | (refine off_cons2 (by k_ne) (by k_ne) ?_))) (by with_reducible assumption) (by with_reducible assumption) (by (first | lia | omega)) (by decide) (by decide)) (by k_asm) (by k_asm) (by k_asm) kP (by k_asm) (by first | exact rfl | assumption) (by (first | exact roomL (by with_reducible assumption) (by rfl) | exact roomL (by assumption) (by rfl) | ktr_room | ((dsimp only [ak]); ktr_room))) (by (first | exact roomU (by with_reducible assumption) (by rfl) | exact roomU (by assumption) (by rfl) | ktr_units | ((dsimp only [ak]); ktr_units))) ?_)
    clear kN kP
    intro r9 tx9 tt9 ks9 h9 tk9 hr9 F9 N9
    (try dsimp only [SL, PL] at N9)
    (try dsimp only)
    (try k_sweep)
  k_with "my call" =>
    (with_reducible show wpAny _ _ (call (Value.ref 142) [Value.ref sk, _, Value.int 8 _]) _ _ _)
    (with_reducible rename News _ _ _ _ => kN)
    (with_reducible first | (have kP := slF sk cel kN) | (have kP := slF sk cel (rotA1 kN)) | (have kP := slF sk cel (rotA4 kN)))
    (with_unfolding_all refine Ctr.useX (text_ok sk cel _ _ 8 _ _ _ _ _ _ _ _ (by k_ne) (by repeat' (first | assumption | (refine off_cons2 (by k_ne) (by k_ne) ?_))) (by with_reducible assumption) (by with_reducible assumption) (by (first | lia | omega)) (by (first | lia | omega)) (by decide) (by decide)) (by k_asm) (by k_asm) (by k_asm) kP (by k_asm) (by first | exact rfl | assumption) (by (first | exact roomL (by with_reducible assumption) (by rfl) | exact roomL (by assumption) (by rfl) | ktr_room | ((dsimp only [ak]); ktr_room))) (by (first | exact roomU (by with_reducible assumption) (by rfl) | exact roomU (by assumption) (by rfl) | ktr_units | ((dsimp only [ak]); ktr_units))) ?_)
    clear kN kP
    intro x9 tx9 tt9 ks9 h9 tk9 hx1 hx8 hx9 F9 N9
    (try dsimp only [SL, PL] at N9)
    (try dsimp only)
    (try k_sweep)
  k_with "my call" =>
    (with_reducible show wpAny _ _ (call (Value.ref 149) [Value.ref x1, _, _, _]) _ _ _)
    (with_reducible rename News _ _ _ _ => kN)
    obtain ⟨C9, D9, p9, hP9⟩ := text_turn hP hx8 hx9
    (with_reducible first | (have kP := pgF x1 d1 o1 (rotP5 kN)) | (have kP := pgF x1 d1 o1 (rotP4 kN)) | (have kP := pgF x1 d1 o1 (rotP3 kN)) | (have kP := pgF x1 d1 o1 (rot2 kN)) | (have kP := pgF x1 d1 o1 kN))
    (with_unfolding_all refine Ctr.useP (written_K x1 d1 o1 _ _ _ _ _ _ _ _ (by first | assumption | k_ne) (by first | assumption | k_ne) (by first | assumption | k_ne) (by repeat' (first | assumption | (refine off_cons3 (by k_ne) (by k_ne) (by k_ne) ?_))) (by assumption) (by first | with_reducible assumption | exact Nat.le_trans (by with_reducible assumption) (by decide) | (first | lia | omega) | (simp only [List.length_cons, List.length_nil]; (first | lia | omega))) (by first | with_reducible assumption | exact Nat.le_trans (by with_reducible assumption) (by decide) | (first | lia | omega) | (simp only [List.length_cons, List.length_nil]; (first | lia | omega))) x9 false width _ _ (by first | with_reducible assumption | exact Nat.le_trans (by with_reducible assumption) (by decide) | (first | lia | omega) | (simp only [List.length_cons, List.length_nil]; (first | lia | omega))) (by first | with_reducible assumption | exact Nat.le_trans (by with_reducible assumption) (by decide) | (first | lia | omega) | (simp only [List.length_cons, List.length_nil]; (first | lia | omega))) (by first | with_reducible assumption | exact Nat.le_trans (by with_reducible assumption) (by decide) | (first | lia | omega) | (simp only [List.length_cons, List.length_nil]; (first | lia | omega))) (by first | with_reducible assumption | exact Nat.le_trans (by with_reducible assumption) (by decide) | (first | lia | omega) | (simp only [List.length_cons, List.length_nil]; (first | lia | omega))) C9 D9 p9) (by k_asm) (by k_asm) (by k_asm) kP (by k_asm) (by first | exact rfl | assumption) (by (first | exact roomL (by with_reducible assumption) (by rfl) | exact roomL (by assumption) (by rfl) | ktr_room | ((dsimp only [ak]); ktr_room))) (by (first | exact roomU (by with_reducible assumption) (by rfl) | exact roomU (by assumption) (by rfl) | ktr_units | ((dsimp only [ak]); ktr_units))) ?_)
    clear kN kP
    intro tr9 vs9 k9 h9 tk9 hv9 F9 N9
    (try dsimp only [SL, PL] at N9)
    (try dsimp only)
    (have hr9 := hP9.row)
    (dsimp only at hr9)
    (try k_sweep)
  k_with "my call" =>
    (with_reducible show wpAny _ _ (call (Value.ref 114) [Value.ref x1, _, _, _]) _ _ _)
    (with_reducible rename News _ _ _ _ => kN)
    (with_reducible rename News _ _ _ (_ :: (_, tupO [_]) :: _) => kN)
    obtain ⟨C9, D9, p9, hP9, hq1, hq2⟩ := zone_turn hP hz hz2
    (with_reducible first | (have kP := pgF x1 d1 o1 (rotP5 kN)) | (have kP := pgF x1 d1 o1 (rotP4 kN)) | (have kP := pgF x1 d1 o1 (rotP3 kN)) | (have kP := pgF x1 d1 o1 (rot2 kN)) | (have kP := pgF x1 d1 o1 kN))
    (with_unfolding_all refine Ctr.useP (write_parts_K x1 d1 o1 _ _ _ _ _ _ _ _ (by first | assumption | k_ne) (by first | assumption | k_ne) (by first | assumption | k_ne) (by repeat' (first | assumption | (refine off_cons3 (by k_ne) (by k_ne) (by k_ne) ?_))) (by assumption) _ _ _ [Part.zone] zone width _ _ (by (first | k_mem | (repeat' (first | exact List.Mem.head _ | assumption | refine List.mem_cons_of_mem _ ?_)))) (PartsIn.cons (by (first | k_mem | (repeat' (first | exact List.Mem.head _ | assumption | refine List.mem_cons_of_mem _ ?_)))) (PartIs.zone _) PartsIn.nil) (by (first | lia | omega)) (by (first | lia | omega)) (by (first | lia | omega)) (by first | with_reducible assumption | exact Nat.le_trans (by with_reducible assumption) (by decide) | (first | lia | omega) | (simp only [List.length_cons, List.length_nil]; (first | lia | omega))) (by first | with_reducible assumption | exact Nat.le_trans (by with_reducible assumption) (by decide) | (first | lia | omega) | (simp only [List.length_cons, List.length_nil]; (first | lia | omega))) C9 D9 p9) (by k_asm) (by k_asm) (by k_asm) kP (by k_asm) (by first | exact rfl | assumption) (by (first | exact roomL (by with_reducible assumption) (by rfl) | exact roomL (by assumption) (by rfl) | ktr_room | ((dsimp only [ak]); ktr_room))) (by (first | exact roomU (by with_reducible assumption) (by rfl) | exact roomU (by assumption) (by rfl) | ktr_units | ((dsimp only [ak]); ktr_units))) ?_)
    clear kN kP
    intro tr9 vs9 k9 h9 tk9 hv9 F9 N9
    (try dsimp only [SL, PL] at N9)
    (try dsimp only)
    (have hr9 := hP9.row)
    (dsimp only at hr9)
    (try k_sweep)
  k_with "my call" =>
    (with_reducible show wpAny _ _ (call (Value.ref 114) [Value.ref x1, _, _, _]) _ _ _)
    (with_reducible rename News _ _ _ _ => kN)
    (with_reducible rename News _ _ _ (_ :: (_, tupO [_, Value.int (_ + 1) _]) :: _) => kN)
    obtain ⟨C9, D9, p9, hP9, hq1, hq2⟩ := tab_turn (c := r9) hP (by (first | lia | omega))
    (with_reducible first | (have kP := pgF x1 d1 o1 (rotP5 kN)) | (have kP := pgF x1 d1 o1 (rotP4 kN)) | (have kP := pgF x1 d1 o1 (rotP3 kN)) | (have kP := pgF x1 d1 o1 (rot2 kN)) | (have kP := pgF x1 d1 o1 kN))
    (with_unfolding_all refine Ctr.useP (write_parts_K x1 d1 o1 _ _ _ _ _ _ _ _ (by first | assumption | k_ne) (by first | assumption | k_ne) (by first | assumption | k_ne) (by repeat' (first | assumption | (refine off_cons3 (by k_ne) (by k_ne) (by k_ne) ?_))) (by assumption) _ _ _ [Part.tab _] zone width _ _ (by (first | k_mem | (repeat' (first | exact List.Mem.head _ | assumption | refine List.mem_cons_of_mem _ ?_)))) (PartsIn.cons (by (first | k_mem | (repeat' (first | exact List.Mem.head _ | assumption | refine List.mem_cons_of_mem _ ?_)))) (PartIs.tab _ _ _ (by (first | lia | omega))) PartsIn.nil) (by (first | lia | omega)) (by (first | lia | omega)) (by (first | lia | omega)) (by first | with_reducible assumption | exact Nat.le_trans (by with_reducible assumption) (by decide) | (first | lia | omega) | (simp only [List.length_cons, List.length_nil]; (first | lia | omega))) (by first | with_reducible assumption | exact Nat.le_trans (by with_reducible assumption) (by decide) | (first | lia | omega) | (simp only [List.length_cons, List.length_nil]; (first | lia | omega))) C9 D9 p9) (by k_asm) (by k_asm) (by k_asm) kP (by k_asm) (by first | exact rfl | assumption) (by (first | exact roomL (by with_reducible assumption) (by rfl) | exact roomL (by assumption) (by rfl) | ktr_room | ((dsimp only [ak]); ktr_room))) (by (first | exact roomU (by with_reducible assumption) (by rfl) | exact roomU (by assumption) (by rfl) | ktr_units | ((dsimp only [ak]); ktr_units))) ?_)
    clear kN kP
    intro tr9 vs9 k9 h9 tk9 hv9 F9 N9
    (try dsimp only [SL, PL] at N9)
    (try dsimp only)
    (have hr9 := hP9.row)
    (dsimp only at hr9)
    (try k_sweep)
  k_with "my call" =>
    (with_reducible show wpAny _ _ (call (Value.ref 114) [Value.ref x1, _, _, _]) _ _ _)
    (with_reducible rename News _ _ _ _ => kN)
    (with_reducible rename News _ _ _ (_ :: (_, tupO [_, Value.int (Nat.cast _) _]) :: _) => kN)
    obtain ⟨C9, D9, p9, hP9, hq1⟩ := spc_turn (c := r9) hP (by (first | lia | omega))
    (with_reducible first | (have kP := pgF x1 d1 o1 (rotP5 kN)) | (have kP := pgF x1 d1 o1 (rotP4 kN)) | (have kP := pgF x1 d1 o1 (rotP3 kN)) | (have kP := pgF x1 d1 o1 (rot2 kN)) | (have kP := pgF x1 d1 o1 kN))
    (with_unfolding_all refine Ctr.useP (write_parts_K x1 d1 o1 _ _ _ _ _ _ _ _ (by first | assumption | k_ne) (by first | assumption | k_ne) (by first | assumption | k_ne) (by repeat' (first | assumption | (refine off_cons3 (by k_ne) (by k_ne) (by k_ne) ?_))) (by assumption) _ _ _ [Part.spc _] zone width _ _ (by (first | k_mem | (repeat' (first | exact List.Mem.head _ | assumption | refine List.mem_cons_of_mem _ ?_)))) (PartsIn.cons (by (first | k_mem | (repeat' (first | exact List.Mem.head _ | assumption | refine List.mem_cons_of_mem _ ?_)))) (PartIs.spc _ _ _ (by (first | lia | omega))) PartsIn.nil) (by (first | lia | omega)) (by (first | lia | omega)) (by (first | lia | omega)) (by first | with_reducible assumption | exact Nat.le_trans (by with_reducible assumption) (by decide) | (first | lia | omega) | (simp only [List.length_cons, List.length_nil]; (first | lia | omega))) (by first | with_reducible assumption | exact Nat.le_trans (by with_reducible assumption) (by decide) | (first | lia | omega) | (simp only [List.length_cons, List.length_nil]; (first | lia | omega))) C9 D9 p9) (by k_asm) (by k_asm) (by k_asm) kP (by k_asm) (by first | exact rfl | assumption) (by (first | exact roomL (by with_reducible assumption) (by rfl) | exact roomL (by assumption) (by rfl) | ktr_room | ((dsimp only [ak]); ktr_room))) (by (first | exact roomU (by with_reducible assumption) (by rfl) | exact roomU (by assumption) (by rfl) | ktr_units | ((dsimp only [ak]); ktr_units))) ?_)
    clear kN kP
    intro tr9 vs9 k9 h9 tk9 hv9 F9 N9
    (try dsimp only [SL, PL] at N9)
    (try dsimp only)
    (have hr9 := hP9.row)
    (dsimp only at hr9)
    (try k_sweep)
  k_with "my call" =>
    (with_reducible show wpAny _ _ (call (Value.ref 128) [Value.ref x1]) _ _ _)
    (with_reducible rename News _ _ _ _ => kN)
    (with_reducible first | (have kP := pgF x1 d1 o1 (rotP5 kN)) | (have kP := pgF x1 d1 o1 (rotP4 kN)) | (have kP := pgF x1 d1 o1 (rotP3 kN)) | (have kP := pgF x1 d1 o1 (rot2 kN)) | (have kP := pgF x1 d1 o1 kN))
    (with_unfolding_all refine Ctr.useA (all_rows_ok x1 d1 o1 _ _ _ _ _ _ _ _ (by first | assumption | k_ne) (by first | assumption | k_ne) (by first | assumption | k_ne) (by repeat' (first | assumption | (refine off_cons3 (by k_ne) (by k_ne) (by k_ne) ?_))) (by assumption) (by first | with_reducible assumption | exact Nat.le_trans (by with_reducible assumption) (by decide) | (first | lia | omega) | (simp only [List.length_cons, List.length_nil]; (first | lia | omega))) (by first | with_reducible assumption | exact Nat.le_trans (by with_reducible assumption) (by decide) | (first | lia | omega) | (simp only [List.length_cons, List.length_nil]; (first | lia | omega)))) (by k_asm) (by k_asm) (by k_asm) kP (by k_asm) (by first | exact rfl | assumption) (by (first | exact roomL (by with_reducible assumption) (by rfl) | exact roomL (by assumption) (by rfl) | ktr_room | ((dsimp only [ak]); ktr_room))) (by (first | exact roomU (by with_reducible assumption) (by rfl) | exact roomU (by assumption) (by rfl) | ktr_units | ((dsimp only [ak]); ktr_units))) ?_)
    clear kN kP
    intro la9 ws9 h9 tk9 lA9 hw9 F9 N9
    (try dsimp only [SL, PL] at N9)
    (try dsimp only)
    (rw [hRR] at hw9)
    (have hlen8 := hw9.len)
    (try k_sweep)
  k_with "my comp" =>
    (first
      | ((with_reducible show wpAny _ _ (eval (PySem.Expr.ListComp _ [⟨PySem.Expr.Tuple _ _ _, _, [], 0⟩] _ _) _) _ _ _); refine LCp.ListComp_P (F₀ := by k_asm) (by with_unfolding_all rfl) (by decide) (by rfl) (by decide) (by rfl) (by rfl) (by decide) ?_)
      | ((with_reducible show wpAny _ _ (eval (PySem.Expr.ListComp _ [⟨PySem.Expr.Name _ _, _, [], 0⟩] _ _) _) _ _ _); refine LCg.ListComp_U (F₀ := by k_asm) (by with_unfolding_all rfl) (by decide) (by rfl) (by decide) (by rfl) ?_)
      | ((with_reducible show wpAny _ _ (eval (PySem.Expr.ListComp _ [⟨PySem.Expr.Name _ _, _, [_], 0⟩] _ _) _) _ _ _); refine LCt.ListComp_T (F₀ := by k_asm) (by with_unfolding_all rfl) (by decide) (by rfl) (by decide) (by rfl) ?_))
  k_with "my iter" =>
    (with_reducible rename Fr _ _ _ _ => kF)
    (with_reducible rename News _ _ _ _ => kN)
    (with_reducible rename IsRange _ _ _ _ _ _ _ _ => kR)
    (refine iter_rngG (n := 8 - r9) (PpJ w.params x1 d1 o1 _ sk cel a1 b1 cvs kc (turn + 1) width own _) (by rfl) kR (small_one (by decide) (by decide) (by (first | lia | omega)) (by (first | lia | omega))) (by rw [rangeSize_nat]; (first | lia | omega)) kF kN (PpJ.zero (hoo _ (by (first | lia | omega)))) ?_ ?_)
    intro i ti I oI m₁ news₁ h9 tk9 hi hoff hJ F1 N1 Qt hQt
    revert hoff N1
    revert hJ
    revert news₁
    refine PpJ.elim ?_
    intro turn9 tt9 ks9 C D tr9 vs9 k9 tvs kk own9 txs hT hxl hx8s hsub ho9 htu hv9 hP hK hoff N1
    (simp only [Int.zero_add] at F1)
    have hi8 : i < 8 := Nat.lt_of_lt_of_le hi (Nat.sub_le _ _)
    have F2 := kst_fr hK.1 (fun z _ a b => hK.2 z a b) F1
    have hI0 : @Ne Nat sk I := hoff _ (.head _)
    have hI1 : @Ne Nat cel I := hoff _ (.tail _ (.head _))
    have hI2 : @Ne Nat x1 I := hoff _ (.tail _ (.tail _ (.head _)))
    have hI3 : @Ne Nat d1 I := hoff _ (.tail _ (.tail _ (.tail _ (.head _))))
    have hI4 : @Ne Nat o1 I := hoff _ (.tail _ (.tail _ (.tail _ (.tail _ (.head _)))))
    have hI5 : @Ne Nat _ I := hoff _ (.tail _ (.tail _ (.tail _ (.tail _ (.tail _ (.head _))))))
    have hI6 : ∀ p ∈ own9, p.1 ≠ I := fun p hp => hoff p (.tail _ (.tail _ (.tail _ (.tail _ (.tail _ (.tail _ hp))))))
    have hos : OwnOff own9 [sk, cel] := off_sub ho9 (by intro x hx; simp only [List.mem_cons, List.not_mem_nil, or_false] at hx ⊢; rcases hx with h | h <;> simp [h])
    have hop : OwnOff own9 [x1, d1, o1] := off_sub ho9 (by intro x hx; simp only [List.mem_cons, List.not_mem_nil, or_false] at hx ⊢; rcases hx with h | h | h <;> simp [h])
    have hor := ho9
    clear hoff F1 kF kN kR ho9
    have hi9 : 100 * i ≤ 800 := by (first | lia | omega)
    have hr1 : C.length ≤ 800 := Nat.le_trans hP.rows hi9
    have hr2 : D.length ≤ 800 := Nat.le_trans hP.row hi9
    have htl := hT.len
    dsimp only [PpL, SL, PL] at N1
    (try dsimp only)
    (try k_fold)
    rotate_left
    intro m₁ news₁ h9 tk9 hJ F1 N1
    revert N1
    revert hJ
    revert news₁
    refine PpJ.elim ?_
    intro turn9 tt9 ks9 C D tr9 vs9 k9 tvs kk own9 txs hT hxl hx8s hsub ho9 htu hv9 hP hK N1
    have F2 := ksw_fr hK.1 hK.2 F1
    clear F1 kF kN kR
    have hi9 : 100 * (8 - r9) ≤ 800 := Nat.mul_le_mul_left 100 (Nat.sub_le 8 r9)
    have hxl8 : txs.length ≤ 8 := by (first | lia | omega)
    have hP := hP.mono hi9
    have hr1 : C.length ≤ 800 := hP.rows
    have hr2 : D.length ≤ 800 := hP.row
    have hop : OwnOff own9 [x1, d1, o1] := off_sub ho9 (by intro x hx; simp only [List.mem_cons, List.not_mem_nil, or_false] at hx ⊢; rcases hx with h | h | h <;> simp [h])
    have htl := hT.len
    have hfs := flat_size hx8s
    obtain ⟨RR, hRR, hR1, hR2, hR3, hR4, hR5⟩ := end_parts hP
    dsimp only [PpL, SL, PL] at N1
    (try dsimp only)
    rotate_right
  k_with "my replace" =>
    (show wpAny _ _ (call (Value.builtin "str.replace") [Value.str (T _) _, Value.str _ _, Value.str _ _]) _ _ _)
    (refine replace_X ?_ ?_ ?_ ?_ ?_)
    · (show @Ne Nat _ _)
      (try dsimp only)
      (first | lia | omega)
    · (show @Ne Nat _ _)
      (try dsimp only)
      (first | lia | omega)
    · (show @Ne Nat _ _)
      (try dsimp only)
      (first | lia | omega)
    · (first | lia | omega)
    intro _ _
  k_with "my srcP" =>
    (refine LCp.SrcLP.ledger (by rfl) (by k_asm) (by k_asm) (by k_mem) (by rw [List.size_toArray, htl]; exact line_of (by (first | lia | omega))) ?_)
    intro g9
    refine rest_P (fun i ys => RowsAre ys ((txs.take i).map Prod.fst)) RowsAre.nil ?_ ?_
    intro i v hi hvi
    revert hvi
    revert v
    refine hT.get_k ?_
    intro q x t e hq hxi
    refine ex5 q _ _ _ _ ⟨rfl, (by repeat' (first | exact hq | refine List.mem_cons_of_mem _ ?_)), rfl, rfl, ?_⟩
    intro ys I oI C oC D m₂ h7 tk7 E7 hR hC hx hy F7 N7 off ne
    rotate_left
    intro ys9 hR9
    (have e9 : txs.take tvs.toArray.size = txs := by rw [List.size_toArray, htl, List.take_length])
    rw [e9] at hR9
    rotate_right
  k_with "my src" =>
    (refine LCg.CompSrc.ledger (by rfl) (by k_asm) (by k_asm) (by k_mem) (by rw [List.size_toArray, hlen8]; exact line_of (by (first | lia | omega))) ?_)
    intro g9
    refine rest_U (fun i ys => IntsAre ys ((RR.take i).map fun r => (r.length : Int))) IntsAre.nil ?_ ?_
    intro i v ys I oI C oC D m₂ h7 tk7 E7 hi hvi hR hC hx F7 N7 off ne
    revert hx
    revert hvi
    revert v
    refine hw9.get_k ?_
    intro r t hri hx
    (have hr8 := hR4 r (List.mem_of_getElem? hri))
    rotate_left
    intro ys9 hR9
    (have e9 : RR.take ws9.toArray.size = RR := by rw [List.size_toArray, hlen8, List.take_length])
    rw [e9] at hR9
    (have hy9 : ys9.length = RR.length := by rw [hR9.length, List.length_map])
    rotate_right
  k_with "my end" =>
    (with_reducible rename News _ _ _ _ => kN)
    (with_reducible rename Fr _ _ _ _ => kF)
    (first
      | (refine LCg.CompEnd.intro kF kN _ (fun p hp => hp) off (Or.inr ⟨_, (by k_mem), rfl, _, rfl⟩) ⟨rfl, ?_⟩; rw [take_snoc hxi, List.map_append]; exact hR.snoc x t)
      | (refine LCg.CompEnd.intro kF kN _ (fun p hp => hp) off (Or.inr ⟨_, (by k_mem), rfl, _, rfl⟩) ⟨rfl, ?_⟩; rw [take_snoc hri, List.map_append]; exact IntsAre.append hR (.cons _ _ .nil)))
  refine wpAny_call ?_
  k_dflt cell_enter
  (try (refine nameL ?_; intro ak; refine nameE ?_; intro ev))
  repeat' (first | (k_unfold; (try dsimp only)) | walk1 | (dsimp only; walk1) | fail "no step")
  all_goals (rename Fr _ _ _ _ => kF)
  all_goals (rename News _ _ _ _ => kN)
  all_goals first
    | exact (bad_zone hq1 (by assumption)).elim
    | exact (bad_zone2 hq2 (by assumption) (by assumption) (by assumption)).elim
    | exact (bad_tab hq1 (by assumption) (by assumption)).elim
    | exact (bad_tab2 hq2 (by assumption) (by assumption)).elim
    | exact (bad_spc hq1 (by assumption) (by assumption)).elim
    | exact hQt _ _ (pp_text kF kN hI0 hI1 hI2 hI3 hI4 hI5 hI6 (by k_ne) (by k_ne) (by k_ne) (by k_ne) (by k_ne) (by k_ne) (by k_ne) hT hxl hx8s hx8 hsub hor (by (first | lia | omega)) hv9 hP9 (fun z h => keeps_in3 (by simp) (by simp) (by simp) h))
    | exact hQt _ _ (Mine.pp_same kF kN hI0 hI1 hI2 hI3 hI4 hI5 hI6 hT hxl hx8s hsub hor (by (first | lia | omega)) hv9 hP9 (fun z h => keeps_in2 (by simp) (by simp) h))
    | exact hQt _ _ (Mine.pp_same kF kN hI0 hI1 hI2 hI3 hI4 hI5 hI6 hT hxl hx8s hsub hor (by (first | lia | omega)) hv9 hP9 (fun z h => keeps_in3 (by simp) (by simp) (by simp) h))
    | skip
  · rename (width : Int) = 0 => hz9
    rw [show ((width : Int) == 0) = true by rw [hz9]; rfl]
    exact hret _ _ _ _ rfl kF kN
  · rename (width : Int) ≠ 0 => hz9
    rename _ ∈ List.map _ _ ++ _ => hM
    rw [decide_eq_true ?_]
    · exact hret _ _ _ _ rfl kF kN
    · rcases List.mem_append.mp hM with hM | hM
      · obtain ⟨r, hr9, hr8⟩ := List.mem_map.mp hM
        have h8 := hR5 r hr9 (by (first | lia | omega))
        rw [← hr8]
        (first | lia | omega)
      · rw [List.mem_singleton.mp hM]
        (first | lia | omega)
end
end
/-! part E14 -/
section
theorem law_start {h₀ h : Heap} {L D' TL SK CL : Addr} {oT : Obj} {t0 : Tok} {cvs0 : List Value} {ns0 : List Int} (N : News h₀ L h [(D', oT), (TL, W.listOf #[] 0), (SK, W.listOf #[Value.ref CL, Value.int 0 t0] 0), (CL, W.listOf cvs0.toArray 0)]) (hI : IntsAre cvs0 ns0) (hn : ns0.length ≤ 100) (g1 : @LT.lt Nat _ CL SK) (g2 : @LT.lt Nat _ SK TL) :
    ∃ sk cel lt cvs ns t1, sk = SK ∧ cel = CL ∧ lt = TL ∧ IntsAre cvs ns ∧ ns.length ≤ 100 ∧ (@LT.lt Nat _ cel sk) ∧ (@LT.lt Nat _ sk lt) ∧ News h₀ L h (SL sk cel ((0 : Nat) : Int) t1 0 cvs 0 [(lt, W.listOf #[] 0)]) := by
  refine ⟨SK, CL, TL, cvs0, ns0, t0, rfl, rfl, rfl, hI, hn, g1, g2, ?_⟩
  exact newsC N (.tail _ (.tail _ (.head _))) (newsC N (.tail _ (.tail _ (.tail _ (.head _)))) (newsC N (.tail _ (.head _)) fun _ h => nomatch h))
abbrev lwS : List Str := [Str.ofString "at", Str.ofString "text"]
def LwJ (sk cel lt : Addr) (cvs : List Value) (kc : Nat) (m₀ : Str → Option Value) (i : Nat) (m : Str → Option Value) (nx : Ledger) : Prop :=
  ∃ (turn : Nat) (tt : Tok) (ks : Nat) (tvs : List Value) (kk : Nat) (own9 : Ledger) (txs : List (List Nat × Bool)),
    nx = SL sk cel (turn : Int) tt ks cvs kc ((lt, W.listOf tvs.toArray kk) :: own9) ∧ TextsIn own9 tvs txs ∧ txs.length = i ∧ (∀ t ∈ txs, 1 ≤ t.1.length ∧ t.1.length ≤ 8) ∧ OwnOff own9 [sk, cel, lt] ∧ turn ≤ 1 + 4 * i ∧ Keeps [] lwS m₀ m
theorem LwJ.elim {sk cel lt : Addr} {cvs : List Value} {kc : Nat} {m₀ : Str → Option Value} {i : Nat} {m : Str → Option Value} {G : Ledger → Prop}
    (H : ∀ (turn : Nat) (tt : Tok) (ks : Nat) (tvs : List Value) (kk : Nat) (own9 : Ledger) (txs : List (List Nat × Bool)), TextsIn own9 tvs txs → txs.length = i → (∀ t ∈ txs, 1 ≤ t.1.length ∧ t.1.length ≤ 8) → OwnOff own9 [sk, cel, lt] → turn ≤ 1 + 4 * i → Keeps [] lwS m₀ m →
      G (SL sk cel (turn : Int) tt ks cvs kc ((lt, W.listOf tvs.toArray kk) :: own9))) : ∀ nx, LwJ sk cel lt cvs kc m₀ i m nx → G nx := by
  intro nx h
  obtain ⟨turn, tt, ks, tvs, kk, own9, txs, rfl, a, b, c, d, e, f⟩ := h
  exact H turn tt ks tvs kk own9 txs a b c d e f
theorem LwJ.zero {sk cel lt : Addr} {cvs : List Value} {kc ks kk : Nat} {tt : Tok} {m₀ : Str → Option Value} : LwJ sk cel lt cvs kc m₀ 0 m₀ (SL sk cel ((0 + 1 : Nat) : Int) tt ks cvs kc [(lt, W.listOf #[] kk)]) :=
  ⟨1, tt, ks, [], kk, [], [], rfl, .nil, rfl, fun _ h => (nomatch h), fun _ h => (nomatch h), Nat.le_refl _, ⟨fun q hq => (nomatch hq), fun z _ _ => rfl⟩⟩
theorem lw_end {h₀ h' : Heap} {L lt sk cel I ta : Addr} {tt t : Tok} {cvs tvs : List Value} {kc turn ks kk i tk : Nat} {own9 : Ledger} {m₀ m' : Str → Option Value} {oI : Obj} {s₁ : Shared} {Q : Flow → Shared → Prop} {x : List Nat} {e : Bool} {txs : List (List Nat × Bool)}
    (F : Fr h₀ L h' m') (N : News h₀ L h' ((ta, tupO [.str (T x) t, .bool e]) :: (sk, W.listOf [Value.ref cel, Value.int (turn : Int) tt].toArray ks) :: (cel, W.listOf cvs.toArray kc) :: (I, oI) :: (lt, W.listOf (tvs.toArray.push (.ref ta)) kk) :: own9))
    (i1 : @Ne Nat sk I) (i2 : @Ne Nat cel I) (i6 : @Ne Nat lt I) (i7 : ∀ p ∈ own9, p.1 ≠ I)
    (j0 : @Ne Nat ta I) (j1 : @Ne Nat ta sk) (j2 : @Ne Nat ta cel) (j6 : @Ne Nat ta lt)
    (hT : TextsIn own9 tvs txs) (hn : txs.length = i) (ht8 : ∀ t ∈ txs, 1 ≤ t.1.length ∧ t.1.length ≤ 8) (hx1 : 1 ≤ x.length) (hx : x.length ≤ 8) (ho : OwnOff own9 [sk, cel, lt]) (htu : turn ≤ 1 + 4 * (i + 1)) (hk : ∀ z, lwS.contains z = false → m' z = m₀ z) :
    PostG h₀ L (LwJ sk cel lt cvs kc m₀ (i + 1)) I oI s₁ Q .next { s₁ with heap := h', toks := tk } := by
  simp only [List.push_toArray] at N
  refine EndG.intro (nx := SL sk cel (turn : Int) tt ks cvs kc ((lt, W.listOf (tvs ++ [Value.ref ta]).toArray kk) :: (ta, tupO [.str (T x) t, .bool e]) :: own9)) F N ?_ ?_ ?_ ⟨turn, tt, ks, _, kk, _, txs ++ [(x, e)], rfl, hT.snoc, ?_, ?_, ?_, htu, ⟨fun q hq => (nomatch hq), fun z _ h => hk z h⟩⟩
  · (repeat' (first | exact List.Mem.head _ | refine List.mem_cons_of_mem _ ?_))
  · dsimp only [SL]
    (repeat' (first | (intro q hq; (repeat' (first | exact hq | refine List.mem_cons_of_mem _ ?_)); done) | refine subC (by k_mem) ?_))
  · exact offC i1 (offC i2 (offC i6 (offC j0 i7)))
  · rw [List.length_append, hn]; rfl
  · intro u hu
    rcases List.mem_append.mp hu with hu | hu
    · exact ht8 u hu
    · rw [List.mem_singleton.mp hu]; exact ⟨hx1, hx⟩
  · exact offN (neC j1 (neC j2 (neC j6 neNil))) ho
section
variable {prog : Program} {w : World} {p : Program} {loose : List Str} {mean : ExcName → Option Value} {mg mb : Str → Option Value}
theorem pages_I (lt : Addr) (tvs : List Value) (nt : Nat) (txs : List (List Nat × Bool)) (narrow wide : Int) (tn tw : Tok) (own : Ledger) (hl : (lt, W.listOf tvs.toArray nt) ∈ own) (hts : TextsIn own tvs txs) (hn : 1 ≤ narrow) (hw : narrow < wide) (hw2 : wide ≤ 1000) (hts2 : txs.length ≤ 20) (hts3 : 0 < txs.length)
    (htx : ∀ t ∈ txs, 1 ≤ t.1.length ∧ t.1.length ≤ 8) :
  Ctr prog w p loose mean mg mb 159 9 [.ref lt, .int narrow tn, .int wide tw] own (fun v news' => v = .bool true ∧ news' = own) := by
  obtain ⟨n, rfl⟩ := Int.eq_ofNat_of_zero_le (show 0 ≤ narrow by (first | lia | omega))
  obtain ⟨k, rfl⟩ := Int.eq_ofNat_of_zero_le (show 0 ≤ wide by (first | lia | omega))
  exact pages_ok lt tvs nt txs n k tn tw own hl hts (by (first | lia | omega)) (by (first | lia | omega)) (by (first | lia | omega)) hts2 hts3 (fun t ht => (htx t ht).2) (fun t ht e => by have := (htx t ht).1; rw [e] at this; exact absurd this (by decide))
theorem rows_right_I (lt : Addr) (tvs : List Value) (nt : Nat) (txs : List (List Nat × Bool)) (width : Int) (tw : Tok) (own : Ledger) (hl : (lt, W.listOf tvs.toArray nt) ∈ own) (hts : TextsIn own tvs txs) (hw : 8 ≤ width) (hw2 : width ≤ 1000) (hts2 : txs.length ≤ 12) (hts3 : 0 < txs.length)
    (htx : ∀ t ∈ txs, 1 ≤ t.1.length ∧ t.1.length ≤ 8) :
  Ctr prog w p loose mean mg mb 169 9 [.ref lt, .int width tw] own (fun v news' => v = .bool true ∧ news' = own) := by
  obtain ⟨n, rfl⟩ := Int.eq_ofNat_of_zero_le (show 0 ≤ width by (first | lia | omega))
  exact rows_right_ok lt tvs nt txs n tw own hl hts (by (first | lia | omega)) (by (first | lia | omega)) hts2 hts3 htx
theorem parts_right_I (sk cel : Addr) (turn : Nat) (tt : Tok) (ks kc : Nat) (cvs : List Value) (ns : List Int) (zone width : Int) (tz tw : Tok) (own : Ledger) (h1 : @Ne Nat sk cel) (ho : OwnOff own [sk, cel]) (hI : IntsAre cvs ns) (hn : ns.length ≤ 100) (ht : turn ≤ 500) (hz : 2 ≤ zone) (hz2 : zone ≤ 7) (hw : 0 ≤ width) (hw2 : width ≤ 1000) :
  Ctr prog w p loose mean mg mb 174 9 [.ref sk, .int zone tz, .int width tw] (SL sk cel turn tt ks cvs kc own) (fun v _ => v = .bool true) := by
  obtain ⟨n, rfl⟩ := Int.eq_ofNat_of_zero_le (show 0 ≤ zone by (first | lia | omega))
  obtain ⟨k, rfl⟩ := Int.eq_ofNat_of_zero_le hw
  exact parts_right_ok sk cel turn tt ks kc cvs ns n k tz tw own h1 ho hI hn ht (by (first | lia | omega)) (by (first | lia | omega)) (by (first | lia | omega))
end
theorem main_ok : PySem.Challenge.rw_sa0053_01.Holds := by
  refine hd ?_
  w_on
  k_go0
  k_with_none
  k_with "call builtin:list.append" =>
    (k_here; (show wpAny _ _ (call (Value.builtin "list.append") [Value.ref _, _]) _ _ _); k_dflt (refine' append_K ?y1k1 ?y1k2 ?y1k3 ?_ ?y1z; (case y1k1 => k_asm); (case y1k2 => k_asm); (case y1k3 => k_upd); (case y1z => first | size_fits | (simp only [List.size_toArray, sizeLine_eq]; (first | lia | omega))); k_whole); intro h' F' N'; (try k_sweep))
  k_with "call builtin:len" =>
    ((with_reducible show wpAny _ _ (call (Value.builtin "len") [Value.str _ _]) _ _ _); (refine' len_X ?y2kx ?y2kz ?_; (case y2kx => first | exact rfl | exact T_nil | exact T_blank); (case y2kz => first | (first | lia | omega) | ((try simp only [List.length_append, List.length_replicate, List.length_nil, List.length_cons, List.length_take, List.length_drop]); (first | lia | omega))); k_whole))
  k_with "binaryOp Add str str" =>
    ((with_reducible show wpAny _ _ (binaryOp Operator.Add (Value.str _ _) (Value.str _ _)) _ _ _); (refine' add_X ?y3kx ?y3ky ?y3kz ?_; (case y3kx => first | exact rfl | exact T_nil | exact T_blank); (case y3ky => first | exact rfl | exact T_nil | exact T_blank); (case y3kz => first | (first | lia | omega) | ((try simp only [List.length_append, List.length_replicate, List.length_nil, List.length_cons, List.length_take, List.length_drop]); (first | lia | omega))); k_whole); intro _ _)
  k_with "compareOp Eq str str" =>
    ((with_reducible show wpAny _ _ (compareOp CmpOp.Eq (Value.str (T _) _) (Value.str _ _)) _ _ _); (refine' eq_X ?y4kx ?y4ky ?_; (case y4kx => first | exact rfl | exact T_nil | exact T_blank); (case y4ky => first | exact rfl | exact T_nil | exact T_blank); k_whole))
  k_with "compareOp Eq str str" =>
    ((with_reducible show wpAny _ _ (compareOp CmpOp.Eq (Value.str _ _) (Value.str (T _) _)) _ _ _); (refine' eq_X ?y5kx ?y5ky ?_; (case y5kx => first | exact rfl | exact T_nil | exact T_blank); (case y5ky => first | exact rfl | exact T_nil | exact T_blank); k_whole))
  k_with "compareOp NotEq str str" =>
    ((with_reducible show wpAny _ _ (compareOp CmpOp.NotEq (Value.str (T _) _) (Value.str _ _)) _ _ _); (refine' ne_X ?y6kx ?y6ky ?_; (case y6kx => first | exact rfl | exact T_nil | exact T_blank); (case y6ky => first | exact rfl | exact T_nil | exact T_blank); k_whole))
  k_with "compareOp NotEq str str" =>
    ((with_reducible show wpAny _ _ (compareOp CmpOp.NotEq (Value.str _ _) (Value.str (T _) _)) _ _ _); (refine' ne_X ?y7kx ?y7ky ?_; (case y7kx => first | exact rfl | exact T_nil | exact T_blank); (case y7ky => first | exact rfl | exact T_nil | exact T_blank); k_whole))
  k_with "binaryOp Mult str int" =>
    ((with_reducible show wpAny _ _ (binaryOp Operator.Mult (Value.str _ _) (Value.int _ _)) _ _ _); (refine' mul_X ?y8kx ?y8k0 ?y8kn ?_; (case y8kx => first | exact rfl | exact T_blank); (case y8k0 => first | (first | lia | omega) | (simp only [List.length_nil]; (first | lia | omega))); (case y8kn => first | (first | lia | omega) | (simp only [List.length_nil]; (first | lia | omega))); k_whole); intro _ _)
  k_with "subscriptTail Name Slice str ref" =>
    ((with_reducible show wpAny _ _ (subscriptTail _ (PySem.Expr.Slice none (some _) none _) (Value.str (T _) _) _) _ _ _); (with_reducible rename Fr _ _ _ _ => F'); (with_reducible rename News _ _ _ _ => N'); (refine' take_T (s := ⟨_, _, _, _, _⟩) ?y9k0 ?y9k1 ?y9kz F' N' ?_ ?y9ks ?y9kt; (case y9k0 => (first | lia | omega)); (case y9k1 => (first | lia | omega)); (case y9kz => (first | lia | omega)); (case y9ks => with_unfolding_all rfl); (case y9kt => intro _; with_unfolding_all rfl); k_whole); intro h' _ _ F' N')
  k_with "subscriptTail Name Slice str ref" =>
    ((with_reducible show wpAny _ _ (subscriptTail _ (PySem.Expr.Slice (some _) none none _) (Value.str (T _) _) _) _ _ _); (with_reducible rename Fr _ _ _ _ => F'); (with_reducible rename News _ _ _ _ => N'); (refine' drop_T (s := ⟨_, _, _, _, _⟩) ?y10k0 ?y10k1 ?y10kz F' N' ?_ ?y10ks ?y10kt; (case y10k0 => (first | lia | omega)); (case y10k1 => (first | lia | omega)); (case y10kz => (first | lia | omega)); (case y10ks => with_unfolding_all rfl); (case y10kt => intro _; with_unfolding_all rfl); k_whole); intro h' _ _ F' N')
  k_with "call ref" =>
    k_dflt (k_extra "my call")
  k_with "exec While" =>
    k_dflt (k_extra "my while")
  k_with "exec For" =>
    k_dflt (k_extra "my for")
  k_with "pyIter ref" =>
    k_dflt (k_extra "my iter")
  k_with "subscriptTail Name Constant ref int" =>
    k_dflt (k_extra "my item")
  k_with "binaryOp Add ref ref" =>
    (k_here; (show wpAny _ _ (binaryOp Operator.Add (Value.ref _) (Value.ref _)) _ _ _); k_dflt (refine' add_L ?y16k1 ?y16k2 ?y16k3 ?y16k4 ?_ ?y16z; (case y16k1 => k_asm); (case y16k2 => k_asm); (case y16k3 => k_mem); (case y16k4 => k_mem); (case y16z => first | (first | lia | omega) | (simp only [List.length_cons, List.length_nil, List.length_append]; (first | lia | omega))); k_whole); intro c9 h9 F9 N9 l9; (have lA := allLt_of l9); (try k_lt l9); (try dsimp only [List.append_nil, List.nil_append, List.cons_append] at N9); (try k_sweep))
  k_with "subscriptTail Constant" =>
    ((with_reducible show wpAny _ _ (subscriptTail _ (PySem.Expr.Slice (some _) (some _) none _) (Value.str (Str.ofString "abcdefghijklmnopqrst") _) _) _ _ _); (with_reducible rename Fr _ _ _ _ => F'); (with_reducible rename News _ _ _ _ => N'); (refine' cut_X (s := ⟨_, _, _, _, _⟩) alpha_T ?y17k0 ?y17k1 ?y17k2 ?y17kz F' N' ?_ ?y17ks ?y17kt; (case y17k0 => (first | lia | omega)); (case y17k1 => (first | lia | omega)); (case y17k2 => rw [List.length_range']; (first | lia | omega)); (case y17kz => rw [List.length_range']; decide); (case y17ks => with_unfolding_all rfl); (case y17kt => intro _; with_unfolding_all rfl); k_whole); intro h' _ _ F' N')
  k_with "subscriptTail Attribute" =>
    k_dflt (k_extra "my item2")
  k_with "call builtin:len" =>
    (k_here; (with_reducible show wpAny _ _ (call (Value.builtin "len") [Value.ref _]) _ _ _); k_dflt (refine' len_L ?y19k1 ?y19k2 ?y19z ?_; (case y19k1 => k_asm); (case y19k2 => first | k_mem | ((repeat' (first | assumption | refine List.mem_cons_of_mem _ ?_)); done)); (case y19z => first | (first | lia | omega) | ((try simp only [List.length_append, List.length_nil, List.length_cons]); (first | lia | omega))); k_whole))
  k_with "subscriptTail Attribute BinOp ref int" =>
    k_dflt (k_extra "my item2")
  k_with "eval ListComp" =>
    k_dflt (k_extra "my comp")
  k_with "CompSrc" =>
    k_dflt (k_extra "my src")
  k_with "CompSrcT" =>
    k_dflt (k_extra "my srcT")
  k_with "SrcLP" =>
    k_dflt (k_extra "my srcP")
  k_with "CompEnd" =>
    k_dflt (k_extra "my end")
  k_with "call builtin:str.join" =>
    (k_here; (show wpAny _ _ (call (Value.builtin "str.join") [Value.str _ _, Value.ref _]) _ _ _); k_dflt (refine' join_X T_nil ?y26k1 ?y26k2 ?y26k3 ?y26z ?_; (case y26k1 => k_asm); (case y26k2 => k_mem); (case y26k3 => assumption); (case y26z => first | (first | lia | omega) | ((try simp only [List.length_append, List.length_nil, List.length_cons]); (first | lia | omega))); k_whole); intro _ _)
  k_with "call builtin:max" =>
    (k_here; (show wpAny _ _ (call (Value.builtin "max") [Value.ref _]) _ _ _); k_dflt (refine' max_X ?y27k0 ?y27k1 ?y27k2 ?y27k3 ?y27k4 ?y27z ?_; (case y27k0 => rfl); (case y27k1 => k_asm); (case y27k2 => k_asm); (case y27k3 => k_mem); (case y27k4 => assumption); (case y27z => first | (first | lia | omega) | ((try simp only [List.length_map, List.length_append, List.length_nil, List.length_cons]); (first | lia | omega))); k_whole); intro h9 M9 t9 tk9 F9 N9 hM1 hM2; (try k_sweep))
  k_with "call builtin:min" =>
    (k_here; (show wpAny _ _ (call (Value.builtin "min") [Value.ref _]) _ _ _); k_dflt (refine' min_X ?y28k0 ?y28k1 ?y28k2 ?y28k3 ?y28k4 ?y28z ?_; (case y28k0 => rfl); (case y28k1 => k_asm); (case y28k2 => k_asm); (case y28k3 => k_mem); (case y28k4 => assumption); (case y28z => first | (first | lia | omega) | ((try simp only [List.length_map, List.length_append, List.length_nil, List.length_cons]); (first | lia | omega))); k_whole); intro h9 M9 t9 tk9 F9 N9 hM1 hM2; (try k_sweep))
  k_with "compareOp NotEq str str" =>
    ((with_reducible show wpAny _ _ (compareOp CmpOp.NotEq (Value.str (T _) _) (Value.str (T _) _)) _ _ _); (refine' ne_K ?y29kx ?y29ky ?y29ks ?_; (case y29kx => exact rfl); (case y29ky => exact rfl); (case y29ks => assumption); k_whole))
  k_with "assign Tuple" =>
    k_dflt (k_extra "my assign")
  k_with "SelSrc" =>
    k_dflt (k_extra "my sel")
  k_with "compareOp Gt ref ref" =>
    (k_here; (with_reducible show wpAny _ _ (compareOp CmpOp.Gt (Value.ref _) (Value.ref _)) _ _ _); k_dflt (refine' gt_pair ?y33k1 ?y33k2 ?y33k3 ?y33k4 ?_; (case y33k1 => (first | exact roomU (by with_reducible assumption) (by rfl) | exact roomU (by assumption) (by rfl) | ktr_units | ((dsimp only [ak]); ktr_units))); (case y33k2 => k_asm); (case y33k3 => k_mem); (case y33k4 => k_mem); k_whole))
  k_with "subscriptTail Name Slice ref ref" =>
    (k_here; (with_reducible show wpAny _ _ (subscriptTail _ (PySem.Expr.Slice _ _ none _) (Value.ref _) (Value.ref _)) _ _ _); k_dflt (refine' kmk_slice_ints ?y34F ?y34N ?y34l ?y34p ?y34q ?y34i ?y34m ?y34c ?_ ?y34s ?y34t ?y34z; (case y34F => k_asm); (case y34N => k_asm); (case y34l => exact News.isList (by k_asm) (by first | k_mem | (repeat' (first | assumption | refine List.mem_cons_of_mem _ ?_)))); (case y34p => kmk_part); (case y34q => kmk_part); (case y34i => assumption); (case y34m => exact kmk_run (by assumption) (by (first | lia | omega)) (by (first | lia | omega))); (case y34c => exact rfl); (case y34s => with_unfolding_all rfl); (case y34t => kmk_pure); (case y34z => first | assumption | kmk_size)); intro D' ws' h' F' N' l1 hI' hC' hL'; (try k_lt l1); (try k_sweep))
  k_with "call builtin:sum" =>
    (k_here; (with_reducible show wpAny _ _ (call (Value.builtin "sum") [Value.ref _]) _ _ _); k_dflt (refine' sum_X ?y35k0 ?y35k1 ?y35k2 ?y35k3 ?y35k4 ?_; (case y35k0 => rfl); (case y35k1 => k_asm); (case y35k2 => k_asm); (case y35k3 => k_mem); (case y35k4 => assumption); k_whole); intro h' tk' t' F' N'; (try k_sweep))
  k_with "subscriptTail Name Name ref int" =>
    k_dflt (k_extra "my idx")
  k_with "subscriptTail Name Call ref int" =>
    k_dflt (k_extra "my idx")
  k_with "ite" =>
    (k_here; k_openite; first | refine ite_pos (by with_reducible assumption) ?_ | refine ite_neg (by with_reducible assumption) ?_ | with_reducible refine ite_tt ?_ | with_reducible refine ite_ff ?_ | ((with_reducible refine split_ine ?_ ?_) <;> intro _) | ((with_reducible refine split_ieq ?_ ?_) <;> intro _) | ((with_reducible refine split_dec ?_ ?_) <;> intro _))
  k_with "execs nil" =>
    ((with_reducible show wpAny _ _ _ _ _ (Shared.mk _ _ _ (_ + 1) _)); (with_reducible refine toks_any ?_); intro tk9)
  k_with "execs cons" =>
    ((with_reducible show wpAny _ _ _ _ _ (Shared.mk _ _ _ (_ + 1) _)); (with_reducible refine toks_any ?_); intro tk9)
  k_with "exec For Name Call cons nil" =>
    k_dflt (k_extra "my for")
  k_with "call type:range" =>
    ((rename Fr _ _ _ _ => F'); (rename News _ _ _ _ => N'); (with_unfolding_all refine range1_rows F' N' ?_; intro _ _ _ _ _ _ _ _ _))
  k_with "k_ne" =>
    first | with_reducible assumption | exact Ne.symm (by with_reducible assumption) | exact Nat.ne_of_lt (by with_reducible assumption) | exact Nat.ne_of_gt (by with_reducible assumption) | exact neL0 (by with_reducible assumption) | exact neR0 (by with_reducible assumption) | exact neL1 (by with_reducible assumption) | exact neR1 (by with_reducible assumption) | exact neL2 (by with_reducible assumption) | exact neR2 (by with_reducible assumption) | exact neL3 (by with_reducible assumption) | exact neR3 (by with_reducible assumption) | exact neL4 (by with_reducible assumption) | exact neR4 (by with_reducible assumption) | exact neL5 (by with_reducible assumption) | exact neR5 (by with_reducible assumption) | exact neL6 (by with_reducible assumption) | exact neR6 (by with_reducible assumption) | exact neL7 (by with_reducible assumption) | exact neR7 (by with_reducible assumption) | exact neL8 (by with_reducible assumption) | exact neR8 (by with_reducible assumption) | exact neL9 (by with_reducible assumption) | exact neR9 (by with_reducible assumption) | exact neL10 (by with_reducible assumption) | exact neR10 (by with_reducible assumption) | exact neL11 (by with_reducible assumption) | exact neR11 (by with_reducible assumption) | exact neL12 (by with_reducible assumption) | exact neR12 (by with_reducible assumption) | exact neL13 (by with_reducible assumption) | exact neR13 (by with_reducible assumption) | exact neTL0 (by with_reducible assumption) (by with_reducible assumption) | exact neTR0 (by with_reducible assumption) (by with_reducible assumption) | exact neTL1 (by with_reducible assumption) (by with_reducible assumption) | exact neTR1 (by with_reducible assumption) (by with_reducible assumption) | exact neTL2 (by with_reducible assumption) (by with_reducible assumption) | exact neTR2 (by with_reducible assumption) (by with_reducible assumption) | exact neTL3 (by with_reducible assumption) (by with_reducible assumption) | exact neTR3 (by with_reducible assumption) (by with_reducible assumption) | exact neTL4 (by with_reducible assumption) (by with_reducible assumption) | exact neTR4 (by with_reducible assumption) (by with_reducible assumption) | exact neTL5 (by with_reducible assumption) (by with_reducible assumption) | exact neTR5 (by with_reducible assumption) (by with_reducible assumption) | exact neTL6 (by with_reducible assumption) (by with_reducible assumption) | exact neTR6 (by with_reducible assumption) (by with_reducible assumption) | exact neTL7 (by with_reducible assumption) (by with_reducible assumption) | exact neTR7 (by with_reducible assumption) (by with_reducible assumption) | exact neTL8 (by with_reducible assumption) (by with_reducible assumption) | exact neTR8 (by with_reducible assumption) (by with_reducible assumption) | exact neTL9 (by with_reducible assumption) (by with_reducible assumption) | exact neTR9 (by with_reducible assumption) (by with_reducible assumption) | exact neQ0 (by with_reducible assumption) | exact Ne.symm (neQ0 (by with_reducible assumption)) | exact neQ1 (by with_reducible assumption) | exact Ne.symm (neQ1 (by with_reducible assumption)) | exact neQ2 (by with_reducible assumption) | exact Ne.symm (neQ2 (by with_reducible assumption)) | exact neQ3 (by with_reducible assumption) | exact Ne.symm (neQ3 (by with_reducible assumption)) | exact neQ4 (by with_reducible assumption) | exact Ne.symm (neQ4 (by with_reducible assumption)) | exact neQ5 (by with_reducible assumption) | exact Ne.symm (neQ5 (by with_reducible assumption)) | exact neQ6 (by with_reducible assumption) | exact Ne.symm (neQ6 (by with_reducible assumption)) | exact neQ7 (by with_reducible assumption) | exact Ne.symm (neQ7 (by with_reducible assumption)) | exact neQ8 (by with_reducible assumption) | exact Ne.symm (neQ8 (by with_reducible assumption)) | exact neQ9 (by with_reducible assumption) | exact Ne.symm (neQ9 (by with_reducible assumption))
  k_with "my for" =>
    (with_reducible rename News _ _ _ _ => kN)
    (with_reducible rename Fr _ _ _ _ => kF)
    (with_reducible rename IntsAre _ _ => hI')
    obtain ⟨sk, cel, lt, cvs, ns, t1, rfl, rfl, rfl, hcv, hns, hg1, hg2, kM⟩ := law_start kN hI' (by (first | lia | omega)) (by (first | lia | omega)) (by (first | lia | omega))
    have hnil : OwnOff ([] : Ledger) [sk, cel] := fun p hp => nomatch hp
    (dsimp only [SL] at kM)
    clear kN
    (with_unfolding_all refine For_invVF kF (by rfl) (by rfl) ?_)
  k_with "my call" =>
    (with_reducible show wpAny _ _ (call (Value.ref 135) [Value.ref sk, Value.int 4 _]) _ _ _)
    (with_reducible rename News _ _ _ _ => kN)
    (with_reducible first | (have kP := slF sk cel kN) | (have kP := slF sk cel (rotA1 kN)) | (have kP := slF sk cel (rotA4 kN)))
    (with_unfolding_all refine Ctr.useT (take_ok sk cel _ 4 _ _ _ _ _ _ _ (by k_ne) (by repeat' (first | assumption | (refine off_cons2 (by k_ne) (by k_ne) ?_))) (by with_reducible assumption) (by with_reducible assumption) (by (first | lia | omega)) (by decide) (by decide)) (by k_asm) (by k_asm) (by k_asm) kP (by k_asm) (by first | exact rfl | assumption) (by (first | exact roomL (by with_reducible assumption) (by rfl) | exact roomL (by assumption) (by rfl) | ktr_room | ((dsimp only [ak]); ktr_room))) (by (first | exact roomU (by with_reducible assumption) (by rfl) | exact roomU (by assumption) (by rfl) | ktr_units | ((dsimp only [ak]); ktr_units))) ?_)
    clear kN kP
    intro r9 tx9 tt9 ks9 h9 tk9 hr9 F9 N9
    (try dsimp only [SL, PL] at N9)
    (try dsimp only)
    (try k_sweep)
  k_with "my call" =>
    (with_reducible show wpAny _ _ (call (Value.ref 135) [Value.ref sk, Value.int 6 _]) _ _ _)
    (with_reducible rename News _ _ _ _ => kN)
    (with_reducible first | (have kP := slF sk cel kN) | (have kP := slF sk cel (rotA1 kN)) | (have kP := slF sk cel (rotA4 kN)))
    (with_unfolding_all refine Ctr.useT (take_ok sk cel _ 6 _ _ _ _ _ _ _ (by k_ne) (by repeat' (first | assumption | (refine off_cons2 (by k_ne) (by k_ne) ?_))) (by with_reducible assumption) (by with_reducible assumption) (by (first | lia | omega)) (by decide) (by decide)) (by k_asm) (by k_asm) (by k_asm) kP (by k_asm) (by first | exact rfl | assumption) (by (first | exact roomL (by with_reducible assumption) (by rfl) | exact roomL (by assumption) (by rfl) | ktr_room | ((dsimp only [ak]); ktr_room))) (by (first | exact roomU (by with_reducible assumption) (by rfl) | exact roomU (by assumption) (by rfl) | ktr_units | ((dsimp only [ak]); ktr_units))) ?_)
    clear kN kP
    intro r9 tx9 tt9 ks9 h9 tk9 hr9 F9 N9
    (try dsimp only [SL, PL] at N9)
    (try dsimp only)
    (try k_sweep)
  k_with "my call" =>
    (with_reducible show wpAny _ _ (call (Value.ref 135) [Value.ref sk, Value.int 8 _]) _ _ _)
    (with_reducible rename News _ _ _ _ => kN)
    (with_reducible first | (have kP := slF sk cel kN) | (have kP := slF sk cel (rotA1 kN)) | (have kP := slF sk cel (rotA4 kN)))
    (with_unfolding_all refine Ctr.useT (take_ok sk cel _ 8 _ _ _ _ _ _ _ (by k_ne) (by repeat' (first | assumption | (refine off_cons2 (by k_ne) (by k_ne) ?_))) (by with_reducible assumption) (by with_reducible assumption) (by (first | lia | omega)) (by decide) (by decide)) (by k_asm) (by k_asm) (by k_asm) kP (by k_asm) (by first | exact rfl | assumption) (by (first | exact roomL (by with_reducible assumption) (by rfl) | exact roomL (by assumption) (by rfl) | ktr_room | ((dsimp only [ak]); ktr_room))) (by (first | exact roomU (by with_reducible assumption) (by rfl) | exact roomU (by assumption) (by rfl) | ktr_units | ((dsimp only [ak]); ktr_units))) ?_)
    clear kN kP
    intro r9 tx9 tt9 ks9 h9 tk9 hr9 F9 N9
    (try dsimp only [SL, PL] at N9)
    (try dsimp only)
    (try k_sweep)
  k_with "my call" =>
    (with_reducible show wpAny _ _ (call (Value.ref 135) [Value.ref sk, Value.int 12 _]) _ _ _)
    (with_reducible rename News _ _ _ _ => kN)
    (with_reducible first | (have kP := slF sk cel kN) | (have kP := slF sk cel (rotA1 kN)) | (have kP := slF sk cel (rotA4 kN)))
    (with_unfolding_all refine Ctr.useT (take_ok sk cel _ 12 _ _ _ _ _ _ _ (by k_ne) (by repeat' (first | assumption | (refine off_cons2 (by k_ne) (by k_ne) ?_))) (by with_reducible assumption) (by with_reducible assumption) (by (first | lia | omega)) (by decide) (by decide)) (by k_asm) (by k_asm) (by k_asm) kP (by k_asm) (by first | exact rfl | assumption) (by (first | exact roomL (by with_reducible assumption) (by rfl) | exact roomL (by assumption) (by rfl) | ktr_room | ((dsimp only [ak]); ktr_room))) (by (first | exact roomU (by with_reducible assumption) (by rfl) | exact roomU (by assumption) (by rfl) | ktr_units | ((dsimp only [ak]); ktr_units))) ?_)
    clear kN kP
    intro r9 tx9 tt9 ks9 h9 tk9 hr9 F9 N9
    (try dsimp only [SL, PL] at N9)
    (try dsimp only)
    (try k_sweep)
  k_with "my call" =>
    (with_reducible show wpAny _ _ (call (Value.ref 142) [Value.ref sk, _, Value.int 8 _]) _ _ _)
    (with_reducible rename News _ _ _ _ => kN)
    (with_reducible first | (have kP := slF sk cel kN) | (have kP := slF sk cel (rotA1 kN)) | (have kP := slF sk cel (rotA4 kN)))
    (with_unfolding_all refine Ctr.useX (text_ok sk cel _ _ 8 _ _ _ _ _ _ _ _ (by k_ne) (by repeat' (first | assumption | (refine off_cons2 (by k_ne) (by k_ne) ?_))) (by with_reducible assumption) (by with_reducible assumption) (by (first | lia | omega)) (by (first | lia | omega)) (by decide) (by decide)) (by k_asm) (by k_asm) (by k_asm) kP (by k_asm) (by first | exact rfl | assumption) (by (first | exact roomL (by with_reducible assumption) (by rfl) | exact roomL (by assumption) (by rfl) | ktr_room | ((dsimp only [ak]); ktr_room))) (by (first | exact roomU (by with_reducible assumption) (by rfl) | exact roomU (by assumption) (by rfl) | ktr_units | ((dsimp only [ak]); ktr_units))) ?_)
    clear kN kP
    intro x9 tx9 tt9 ks9 h9 tk9 hx1 hx8 hx9 F9 N9
    (try dsimp only [SL, PL] at N9)
    (try dsimp only)
    (try k_sweep)
  k_with "my call" =>
    (show wpAny _ _ (call (Value.ref 159) [_, _, _]) _ _ _)
    (with_reducible rename News _ _ _ _ => kN)
    (with_unfolding_all refine Ctr.useB (pages_I lt tvs _ txs _ _ _ _ _ (by (first | k_mem | (repeat' (first | exact List.Mem.head _ | assumption | refine List.mem_cons_of_mem _ ?_)))) (hT.mono (fun p hp => by repeat' (first | exact hp | refine List.mem_cons_of_mem _ ?_))) (by (first | lia | omega)) (by (first | lia | omega)) (by (first | lia | omega)) (by (first | lia | omega)) (by (first | lia | omega)) hx8s) (by k_asm) (by k_asm) (by k_asm) (kN) (by k_asm) (by first | exact rfl | assumption) (by (first | exact roomL (by with_reducible assumption) (by rfl) | exact roomL (by assumption) (by rfl) | ktr_room | ((dsimp only [ak]); ktr_room))) (by (first | exact roomU (by with_reducible assumption) (by rfl) | exact roomU (by assumption) (by rfl) | ktr_units | ((dsimp only [ak]); ktr_units))) ?_)
    clear kN
    intro h9 tk9 F9 N9
    (try dsimp only [SL] at N9)
    (try dsimp only)
    (try k_sweep)
  k_with "my call" =>
    (show wpAny _ _ (call (Value.ref 169) [_, _]) _ _ _)
    (with_reducible rename News _ _ _ _ => kN)
    (with_unfolding_all refine Ctr.useB (rows_right_I lt tvs _ txs _ _ _ (by (first | k_mem | (repeat' (first | exact List.Mem.head _ | assumption | refine List.mem_cons_of_mem _ ?_)))) (hT.mono (fun p hp => by repeat' (first | exact hp | refine List.mem_cons_of_mem _ ?_))) (by (first | lia | omega)) (by (first | lia | omega)) (by (first | lia | omega)) (by (first | lia | omega)) hx8s) (by k_asm) (by k_asm) (by k_asm) (kN) (by k_asm) (by first | exact rfl | assumption) (by (first | exact roomL (by with_reducible assumption) (by rfl) | exact roomL (by assumption) (by rfl) | ktr_room | ((dsimp only [ak]); ktr_room))) (by (first | exact roomU (by with_reducible assumption) (by rfl) | exact roomU (by assumption) (by rfl) | ktr_units | ((dsimp only [ak]); ktr_units))) ?_)
    clear kN
    intro h9 tk9 F9 N9
    (try dsimp only [SL] at N9)
    (try dsimp only)
    (try k_sweep)
  k_with "my call" =>
    (show wpAny _ _ (call (Value.ref 174) [_, _, _]) _ _ _)
    (with_reducible rename News _ _ _ _ => kN)
    (with_unfolding_all refine Ctr.use (parts_right_I sk cel _ _ _ _ _ _ _ _ _ _ _ (by k_ne) (by repeat' (first | assumption | (refine off_cons2 (by k_ne) (by k_ne) ?_))) (by with_reducible assumption) (by with_reducible assumption) (by (first | lia | omega)) (by (first | lia | omega)) (by (first | lia | omega)) (by (first | lia | omega)) (by (first | lia | omega))) (by k_asm) (by k_asm) (by k_asm) (kN) (by k_asm) (by first | exact rfl | assumption) (by (first | exact roomL (by with_reducible assumption) (by rfl) | exact roomL (by assumption) (by rfl) | ktr_room | ((dsimp only [ak]); ktr_room))) (by (first | exact roomU (by with_reducible assumption) (by rfl) | exact roomU (by assumption) (by rfl) | ktr_units | ((dsimp only [ak]); ktr_units))) ?_)
    clear kN
    rintro v9 n9 h9 tk9 rfl F9 N9
    (try dsimp only [SL] at N9)
    (try dsimp only)
    (try k_sweep)
  k_with "my iter" =>
    (with_reducible rename Fr _ _ _ _ => kF)
    (with_reducible rename News _ _ _ _ => kN)
    (with_reducible rename IsRange _ _ _ _ _ _ _ _ => kR)
    (refine iter_rngG (n := 10 - r9) (LwJ sk cel lt cvs 0 _) (by rfl) kR (small_one (by decide) (by decide) (by (first | lia | omega)) (by (first | lia | omega))) (by rw [rangeSize_nat]; (first | lia | omega)) kF kN LwJ.zero ?_ ?_)
    intro i ti I oI m₁ news₁ h9 tk9 hi hoff hJ F1 N1 Qt hQt
    revert hoff N1
    revert hJ
    revert news₁
    refine LwJ.elim ?_
    intro turn9 tt9 ks9 tvs kk own9 txs hT hxl hx8s ho9 htu hK hoff N1
    (simp only [Int.zero_add] at F1)
    have hi8 : i < 10 := Nat.lt_of_lt_of_le hi (Nat.sub_le _ _)
    have F2 := kst_fr hK.1 (fun z _ a b => hK.2 z a b) F1
    have hI0 : @Ne Nat sk I := hoff _ (.head _)
    have hI1 : @Ne Nat cel I := hoff _ (.tail _ (.head _))
    have hI5 : @Ne Nat lt I := hoff _ (.tail _ (.tail _ (.head _)))
    have hI6 : ∀ p ∈ own9, p.1 ≠ I := fun p hp => hoff p (.tail _ (.tail _ (.tail _ hp)))
    have hos : OwnOff own9 [sk, cel] := off_sub ho9 (by intro x hx; simp only [List.mem_cons, List.not_mem_nil, or_false] at hx ⊢; rcases hx with h | h <;> simp [h])
    have hor := ho9
    clear hoff F1 kF kN kR ho9
    have htl := hT.len
    dsimp only [SL] at N1
    (try dsimp only)
    (try k_fold)
    rotate_left
    intro m₁ news₁ h9 tk9 hJ F1 N1
    revert N1
    revert hJ
    revert news₁
    refine LwJ.elim ?_
    intro turn9 tt9 ks9 tvs kk own9 txs hT hxl hx8s ho9 htu hK N1
    have F2 := ksw_fr hK.1 hK.2 F1
    clear F1 kF kN kR
    have hx10 : txs.length ≤ 10 := by rw [hxl]; exact Nat.sub_le _ _
    have hx0 : 0 < txs.length := by (first | lia | omega)
    have htu9 : turn9 ≤ 41 := by (first | lia | omega)
    have hos : OwnOff own9 [sk, cel] := off_sub ho9 (by intro x hx; simp only [List.mem_cons, List.not_mem_nil, or_false] at hx ⊢; rcases hx with h | h <;> simp [h])
    have htl := hT.len
    dsimp only [SL] at N1
    (try dsimp only)
    rotate_right
  (all_goals try k_fold)
  all_goals repeat' (first | (k_unfold; (try dsimp only)) | walk1 | (dsimp only; walk1) | fail "no step")
  · (with_reducible rename Fr _ _ _ _ => kF)
    (with_reducible rename News _ _ _ _ => kN)
    exact hQt _ _ (lw_end kF kN hI0 hI1 hI5 hI6 (by k_ne) (by k_ne) (by k_ne) (by k_ne) hT hxl hx8s hx1 hx8 hor (by (first | lia | omega)) (fun z h => keeps_in2 (by simp) (by simp) h))
  all_goals k_steps
  all_goals (try k_data)
  all_goals w_report
end
end Mine
end
theorem PySem.Challenge.cw_sa0053_01_holds : PySem.Challenge.rw_sa0053_01.Holds := by
  exact Mine.main_ok
