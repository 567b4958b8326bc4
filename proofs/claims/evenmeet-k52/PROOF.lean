import PyProof.Rows.All
import Wide.All
import OpenK.AllK
import Wide.FinOn
import HandS.ForMost
import HandS.TupSets
import HandS.Conv
import HandS.IsInst
import HandS.Zip
import HandS.Flow
import HandS.Evl
import HandS.SortInts
import HandS.Steps
import HandS.Wide
import KE.SortData
import KE.GoesEnum
import KE.GoesZip
import KE.GoesMore
import PyProof.TupleOfSeq
import PySem.Challenge.RW_evenmeet_k52_whole_by_all_rows
set_option Elab.async false
set_option linter.all false
set_option maxRecDepth 100000
set_option maxHeartbeats 1000000
/-! EmKit: a typed layer over the judgements. A world has a base heap (what is settled) within its heap. -/
namespace EM
open PySem PySem.Spec L2 Evl

/-! ### pairs of lists -/
inductive P2 {α : Type u} {β : Type v} (F : α → β → Prop) : List α → List β → Prop
  | nil : P2 F [] []
  | cons {a b as bs} : F a b → P2 F as bs → P2 F (a :: as) (b :: bs)
section
variable {α : Type u} {β : Type v} {F G : α → β → Prop}
theorem P2.mono (f : ∀ a b, F a b → G a b) : ∀ {as : List α} {bs : List β}, P2 F as bs → P2 G as bs
  | _, _, .nil => .nil
  | _, _, .cons h t => .cons (f _ _ h) (P2.mono f t)
theorem P2.len : ∀ {as : List α} {bs : List β}, P2 F as bs → as.length = bs.length
  | _, _, .nil => rfl
  | _, _, .cons _ t => by rw [List.length_cons, List.length_cons, P2.len t]
theorem P2.app : ∀ {as as' : List α} {bs bs' : List β}, P2 F as bs → P2 F as' bs' → P2 F (as ++ as') (bs ++ bs')
  | _, _, _, _, .nil, q => q
  | _, _, _, _, .cons h t, q => .cons h (P2.app t q)
theorem P2.snoc {as : List α} {bs : List β} {a : α} {b : β} (h : P2 F as bs) (x : F a b) : P2 F (as ++ [a]) (bs ++ [b]) := h.app (.cons x .nil)
theorem P2.at : ∀ {as : List α} {bs : List β} {i : Nat} {a : α}, P2 F as bs → as[i]? = some a → ∃ b, bs[i]? = some b ∧ F a b
  | _, _, _, _, .nil, e => by simp at e
  | _, _, 0, _, .cons h _, e => by
    have e' := Option.some.inj (show some _ = some _ from e)
    subst e'
    exact ⟨_, rfl, h⟩
  | _, _, i + 1, _, .cons _ t, e => P2.at (i := i) t e
theorem P2.atr : ∀ {as : List α} {bs : List β} {i : Nat} {b : β}, P2 F as bs → bs[i]? = some b → ∃ a, as[i]? = some a ∧ F a b
  | _, _, _, _, .nil, e => by simp at e
  | _, _, 0, _, .cons h _, e => by
    have e' := Option.some.inj (show some _ = some _ from e)
    subst e'
    exact ⟨_, rfl, h⟩
  | _, _, i + 1, _, .cons _ t, e => P2.atr (i := i) t e
theorem P2.take (n : Nat) : ∀ {as : List α} {bs : List β}, P2 F as bs → P2 F (as.take n) (bs.take n) := by
  induction n with
  | zero => intro as bs _; exact .nil
  | succ n ih => intro as bs h; cases h with
    | nil => exact .nil
    | cons h t => exact .cons h (ih t)
theorem P2.drop (n : Nat) : ∀ {as : List α} {bs : List β}, P2 F as bs → P2 F (as.drop n) (bs.drop n) := by
  induction n with
  | zero => intro as bs h; exact h
  | succ n ih => intro as bs h; cases h with
    | nil => exact .nil
    | cons h t => exact ih t
theorem P2.set {a : α} {b : β} (x : F a b) : ∀ (n : Nat) {as : List α} {bs : List β}, P2 F as bs → P2 F (as.set n a) (bs.set n b)
  | _, _, _, .nil => .nil
  | 0, _, _, .cons _ t => .cons x t
  | n + 1, _, _, .cons h t => .cons h (P2.set x n t)
end
theorem P2.fn {α : Type u} {β : Type v} {F : α → β → Prop} {f : α → β} (h : ∀ a b, F a b → b = f a) : ∀ {as : List α} {bs : List β}, P2 F as bs → bs = as.map f
  | _, _, .nil => rfl
  | _, _, .cons x t => by rw [List.map_cons, ← h _ _ x, ← P2.fn h t]
theorem P2.of {α : Type u} {β : Type v} {F : α → β → Prop} {f : α → β} : ∀ {as : List α}, (∀ a, a ∈ as → F a (f a)) → P2 F as (as.map f)
  | [], _ => .nil
  | a :: as, h => .cons (h a (.head _)) (P2.of fun b hb => h b (.tail _ hb))

/-! ### worlds -/
structure Wd where
  b : Hp
  h : Hp
  ex : Ex b h
def NotTup : HO → Prop
  | .tup _ => False
  | _ => True
/-- later: the base may grow, what is beyond it stays beyond it (a tuple may come in) -/
structure Le (w u : Wd) : Prop where
  b : Ex w.b u.b
  h : Ex w.h u.h
  n : ∀ p o, NotTup o → w.h p = some o → w.b p = none → u.b p = none
theorem Le.refl (w : Wd) : Le w w := ⟨Ex.refl _, Ex.refl _, fun _ _ _ _ q => q⟩
theorem Le.trans {w u x : Wd} (a : Le w u) (b : Le u x) : Le w x := ⟨a.b.trans b.b, a.h.trans b.h, fun p o t e q => b.n p o t (a.h p o e) (a.n p o t e q)⟩
/-- a new object in the base -/
def Wd.new (w : Wd) (p : Addr) (o : HO) : Wd := ⟨upd w.b p o, upd w.h p o, fun a u e => by
  by_cases h : a = p
  · rw [h, upd_same] at e
    rw [h, upd_same]
    exact e
  · rw [upd_ne h] at e ⊢
    exact w.ex a u e⟩
theorem Wd.free (w : Wd) {p : Addr} (h : w.h p = none) : w.b p = none := fresh_back w.ex h
theorem Le.new {w : Wd} {p : Addr} {o : HO} (h : w.h p = none) : Le w (w.new p o) :=
  ⟨Ex.new (w.free h), Ex.new h, fun q u _ e z => by
    show upd w.b p o q = none
    rw [upd_ne (ne_of_none e h)]
    exact z⟩
theorem Wd.new_at {w : Wd} {p : Addr} {o : HO} : (w.new p o).b p = some o := upd_same
/-- an object beyond the base -/
def Wd.own (w : Wd) (p : Addr) (o : HO) (h : w.b p = none) : Wd := ⟨w.b, upd w.h p o, Ex.mut w.ex h⟩
theorem Le.own {w : Wd} {p : Addr} {o : HO} (h : w.h p = none) : Le w (w.own p o (w.free h)) :=
  ⟨Ex.refl _, Ex.new h, fun _ _ _ _ z => z⟩
/-- an object beyond the base, unknown at w0, has changed -/
theorem Le.mut {w0 w : Wd} {p : Addr} {o : HO} (l : Le w0 w) (h0 : w0.h p = none) (h : w.b p = none) : Le w0 (w.own p o h) :=
  ⟨l.b, Ex.mut l.h h0, l.n⟩
/-- .. is settled -/
def Wd.fix (w : Wd) (p : Addr) (o : HO) (e : w.h p = some o) : Wd := ⟨upd w.b p o, w.h, fun a u q => by
  by_cases h : a = p
  · rw [h, upd_same] at q
    rw [h, ← q]
    exact e
  · rw [upd_ne h] at q
    exact w.ex a u q⟩
theorem Le.fix {w0 w : Wd} {p : Addr} {o : HO} {e : w.h p = some o} (l : Le w0 w) (h0 : w0.h p = none) (h : w.b p = none) : Le w0 (w.fix p o e) :=
  ⟨l.b.trans (Ex.new h), l.h, fun q u t e1 z => by
    show upd w.b p o q = none
    rw [upd_ne (ne_of_none e1 h0)]
    exact l.n q u t e1 z⟩

/-! ### relations: how data lies in a heap -/
structure Rel (α : Type) where
  r : α → V → Hp → Prop
  mono : ∀ {a v H H'}, Ex H H' → r a v H → r a v H'
def rV : Rel V := ⟨fun a v _ => v = a, fun _ h => h⟩
def rInt : Rel Int := ⟨fun i v _ => v = .int i, fun _ h => h⟩
def rBool : Rel Bool := ⟨fun i v _ => v = .bl i, fun _ h => h⟩
def rStr : Rel Str := ⟨fun i v _ => v = .str i, fun _ h => h⟩
def rNon : Rel Unit := ⟨fun _ v _ => v = .non, fun _ h => h⟩
section
variable {α β γ : Type}
def rOpt (R : Rel α) : Rel (Option α) := ⟨fun a v H => match a with | none => v = .non | some a => R.r a v H, fun {a _ _ _} e h => by
  cases a with
  | none => exact h
  | some a => exact R.mono e h⟩
def rL (R : Rel α) : Rel (List α) := ⟨fun as v H => ∃ p xs, v = .ref p ∧ H p = some (.lst xs) ∧ P2 (fun a x => R.r a x H) as xs,
  fun e ⟨p, xs, h1, h2, h3⟩ => ⟨p, xs, h1, e _ _ h2, h3.mono fun _ _ q => R.mono e q⟩⟩
def rT (R : Rel α) : Rel (List α) := ⟨fun as v H => ∃ p xs, v = .ref p ∧ H p = some (.tup xs) ∧ P2 (fun a x => R.r a x H) as xs,
  fun e ⟨p, xs, h1, h2, h3⟩ => ⟨p, xs, h1, e _ _ h2, h3.mono fun _ _ q => R.mono e q⟩⟩
def rP (R : Rel α) (S : Rel β) : Rel (α × β) := ⟨fun a v H => ∃ p x y, v = .ref p ∧ H p = some (.tup [x, y]) ∧ R.r a.1 x H ∧ S.r a.2 y H,
  fun e ⟨p, x, y, h1, h2, h3, h4⟩ => ⟨p, x, y, h1, e _ _ h2, R.mono e h3, S.mono e h4⟩⟩
def rP3 (R : Rel α) (S : Rel β) (T : Rel γ) : Rel (α × β × γ) := ⟨fun a v H => ∃ p x y z, v = .ref p ∧ H p = some (.tup [x, y, z]) ∧ R.r a.1 x H ∧ S.r a.2.1 y H ∧ T.r a.2.2 z H,
  fun e ⟨p, x, y, z, h1, h2, h3, h4, h5⟩ => ⟨p, x, y, z, h1, e _ _ h2, R.mono e h3, S.mono e h4, T.mono e h5⟩⟩
/-- some a of which P holds -/
def rEx (P : α → Prop) (R : Rel α) : Rel Unit := ⟨fun _ v H => ∃ a, P a ∧ R.r a v H, fun e ⟨a, h, q⟩ => ⟨a, h, R.mono e q⟩⟩
/-- by a family -/
def rBy (F : β → α → Prop) (R : Rel α) : Rel β := ⟨fun b v H => ∃ a, F b a ∧ R.r a v H, fun e ⟨a, h, q⟩ => ⟨a, h, R.mono e q⟩⟩
end
/-- the script: a list that is read -/
def rScr (K : PySem.W.Frag) : Rel (List Int) := ⟨fun ns v H => ∃ a, v = .ref a ∧ SqL K H a (ns.map V.int), fun e ⟨a, h, q⟩ => ⟨a, h, ex_l e q⟩⟩
/-- a tuple of texts of the top -/
def rWords (K : PySem.W.Frag) : Rel (List Str) := ⟨fun ws v H => ∃ a, v = .ref a ∧ SqT K H a (ws.map V.str), fun e ⟨a, h, q⟩ => ⟨a, h, ex_t e q⟩⟩

/-! ### contexts -/
structure Imm : Type 1 where
  {α : Type}
  R : Rel α
  a : α
structure Own where
  c : HO → Hp → Prop
  mono : ∀ {o H H'}, Ex H H' → c o H → c o H'
  nt : ∀ {o H}, c o H → NotTup o
def ownL {α : Type} (R : Rel α) (as : List α) : Own := ⟨fun o H => ∃ xs, o = .lst xs ∧ P2 (fun a x => R.r a x H) as xs, fun e ⟨xs, h, q⟩ => ⟨xs, h, q.mono fun _ _ z => R.mono e z⟩, fun ⟨xs, h, _⟩ => by
  rw [h]
  trivial⟩
structure Ctx : Type 1 where
  s : List (Option Imm)
  o : Option (Nat × Own)
def Ctx.set {α : Type} (Γ : Ctx) (i : Nat) (R : Rel α) (a : α) : Ctx := ⟨Γ.s.set i (some ⟨R, a⟩), match Γ.o with | none => none | some (j, C) => if j = i then none else some (j, C)⟩
def Ctx.own (Γ : Ctx) (i : Nat) (C : Own) : Ctx := ⟨Γ.s.set i none, some (i, C)⟩
def Ctx.fix {α : Type} (Γ : Ctx) (i : Nat) (R : Rel α) (a : α) : Ctx := ⟨Γ.s.set i (some ⟨R, a⟩), none⟩

structure Sat (Γ : Ctx) (σ : L2.St) (w : Wd) : Prop where
  len : σ.length = Γ.s.length
  im : ∀ (i : Nat) (m : Imm), Γ.s[i]? = some (some m) → ∃ v, σ[i]? = some (some v) ∧ m.R.r m.a v w.b
  ow : ∀ (i : Nat) (C : Own), Γ.o = some (i, C) → ∃ p o, σ[i]? = some (some (.ref p)) ∧ w.h p = some o ∧ w.b p = none ∧ C.c o w.b
theorem Sat.mono {Γ : Ctx} {σ : L2.St} {w u : Wd} (S : Sat Γ σ w) (l : Le w u) : Sat Γ σ u :=
  ⟨S.len, fun i m e => let ⟨v, h1, h2⟩ := S.im i m e; ⟨v, h1, m.R.mono l.b h2⟩, fun i C e => let ⟨p, o, h1, h2, h3, h4⟩ := S.ow i C e; ⟨p, o, h1, l.h _ _ h2, l.n _ _ (C.nt h4) h2 h3, C.mono l.b h4⟩⟩
/-- where a def stands: the world at its start, a base that stays -/
structure Ent where
  w : Wd
  b : Hp
/-- within a def -/
structure SatS (Γ : Ctx) (w0 : Ent) (σ : L2.St) (w : Wd) : Prop where
  sat : Sat Γ σ w
  le : Le w0.w w
  kb : Ex w0.b w.b
  new : ∀ (i : Nat) (C : Own) (p : Addr), Γ.o = some (i, C) → σ[i]? = some (some (.ref p)) → w0.w.h p = none
theorem SatS.mono {Γ : Ctx} {w0 : Ent} {σ : L2.St} {w u : Wd} (S : SatS Γ w0 σ w) (l : Le w u) : SatS Γ w0 σ u := ⟨S.sat.mono l, S.le.trans l, S.kb.trans l.b, S.new⟩

theorem sat_set {α : Type} {Γ : Ctx} {σ : L2.St} {w : Wd} {i : Nat} {R : Rel α} {a : α} {v : V} (S : Sat Γ σ w) (h : R.r a v w.b) : Sat (Γ.set i R a) (σ.set i (some v)) w := by
  refine ⟨by simp [Ctx.set, S.len], fun j m e => ?_, fun j C e => ?_⟩
  · have e' : (Γ.s.set i (some ⟨R, a⟩))[j]? = some (some m) := e
    by_cases hj : i = j
    · subst hj
      have hl : i < Γ.s.length := by
        have := (List.getElem?_eq_some_iff.mp e').1
        rwa [List.length_set] at this
      rw [List.getElem?_set_self hl] at e'
      cases e'
      exact ⟨v, by rw [List.getElem?_set_self (by rw [S.len]; exact hl)], h⟩
    · rw [List.getElem?_set_ne hj] at e'
      obtain ⟨v', h1, h2⟩ := S.im j m e'
      exact ⟨v', by rw [List.getElem?_set_ne hj]; exact h1, h2⟩
  · have e' : (match Γ.o with | none => none | some (j, C) => if j = i then none else some (j, C)) = some (j, C) := e
    cases ho : Γ.o with
    | none => rw [ho] at e'; cases e'
    | some q =>
      obtain ⟨j', C'⟩ := q
      rw [ho] at e'
      by_cases hj : j' = i
      · simp [hj] at e'
      · simp [hj] at e'
        obtain ⟨rfl, rfl⟩ := e'
        obtain ⟨p, o, h1, h2⟩ := S.ow _ _ ho
        exact ⟨p, o, by rw [List.getElem?_set_ne (Ne.symm hj)]; exact h1, h2⟩
theorem sats_set {α : Type} {Γ : Ctx} {w0 : Ent} {σ : L2.St} {w : Wd} {i : Nat} {R : Rel α} {a : α} {v : V} (S : SatS Γ w0 σ w) (h : R.r a v w.b) : SatS (Γ.set i R a) w0 (σ.set i (some v)) w := by
  refine ⟨sat_set S.sat h, S.le, S.kb, fun j C p e e2 => ?_⟩
  have e' : (match Γ.o with | none => none | some (j, C) => if j = i then none else some (j, C)) = some (j, C) := e
  cases ho : Γ.o with
  | none => rw [ho] at e'; cases e'
  | some q =>
    obtain ⟨j', C'⟩ := q
    rw [ho] at e'
    by_cases hj : j' = i
    · simp [hj] at e'
    · simp [hj] at e'
      obtain ⟨rfl, rfl⟩ := e'
      rw [List.getElem?_set_ne (Ne.symm hj)] at e2
      exact S.new _ _ p ho e2

/-! ### judgements -/
def EE {α : Type} (te : TE) (Γ : Ctx) (R : Rel α) (a : α) : Prop := ∀ σ w, Sat Γ σ w → ∀ Q : VK, (∀ v u, Le w u → R.r a v u.b → Q v u.h) → te σ w.h Q
def ET (tt : TT) (Γ : Ctx) (b : Bool) : Prop := ∀ σ w, Sat Γ σ w → ∀ Q : Bool → Hp → Prop, (∀ u, Le w u → Q b u.h) → tt σ w.h Q
def EA (ta : TA) (Γ : Ctx) (ms : List Imm) : Prop := ∀ σ w, Sat Γ σ w → ∀ Q : List V → Hp → Prop, (∀ vs u, Le w u → P2 (fun (m : Imm) v => m.R.r m.a v u.b) ms vs → Q vs u.h) → ta σ w.h Q
/-- a walk over as -/
def IsWalk {α : Type} (J : It) (b : Hp) (as : List α) (R : Rel α) : Prop := ∀ w : Wd, Ex b w.b → (∀ i, i < as.length → J.go i w.h) ∧ J.stop as.length w.h ∧
  ∀ i x H', i < as.length → J.yld i w.h x H' → ∃ (u : Wd) (a : α), u.h = H' ∧ Le w u ∧ as[i]? = some a ∧ R.r a x u.b
def EI {α : Type} (wi : TI) (Γ : Ctx) (R : Rel α) (as : List α) : Prop := ∀ σ w, Sat Γ σ w → ∀ RR : It → Hp → Prop, (∀ J u, Le w u → IsWalk J u.b as R → RR J u.h) → wi σ w.h RR
/-- a target that stores into the slots js -/
def EG {α : Type} (g : TG) (js : List Nat) (Γ : Ctx) (R : Rel α) (a : α) (Γ' : Ctx) : Prop := ∀ σ w v, Sat Γ σ w → R.r a v w.b → ∀ Q : L2.St → Hp → Prop,
  (∀ σ' u, Le w u → Sat Γ' σ' u → σ'.length = σ.length → (∀ k, k ∉ js → σ'[k]? = σ[k]?) → Q σ' u.h) → g v σ w.h Q
def Go (t : TS) (D : Ends) (Γ : Ctx) (w0 : Ent) : Prop := ∀ σ w, SatS Γ w0 σ w → t D σ w.h
/-- what stands behind a statement -/
def nxt (P : Prop) (Γ : Ctx) (w0 : Ent) : L2.St → Hp → Prop := fun σ H => P ∧ ∃ w : Wd, w.h = H ∧ SatS Γ w0 σ w

section
variable {α β γ δ : Type} {Γ Γ' : Ctx} {R : Rel α} {S : Rel β} {T : Rel γ} {U : Rel δ} {K : PySem.W.Frag} {te ta tb tc : TE} {tt t u : TT} {tr : TA} {ms : List Imm} {w0 : Ent} {D : Ends} {tz tu tw : TS}

theorem EE.is {a a' : α} (h : EE te Γ R a) (e : a = a') : EE te Γ R a' := e ▸ h
theorem ET.is {a a' : Bool} (h : ET tt Γ a) (e : a = a') : ET tt Γ a' := e ▸ h
theorem EE.imp {a : α} {b : β} (h : EE te Γ R a) (f : ∀ v H, R.r a v H → S.r b v H) : EE te Γ S b := fun σ w q Q k => h σ w q Q fun v u l r => k v u l (f _ _ r)
theorem EE.ex {P : α → Prop} {a : α} (h : EE te Γ R a) (p : P a) : EE te Γ (rEx P R) () := h.imp fun _ _ r => ⟨a, p, r⟩
theorem ee_var {i : Nat} {a : α} (h : Γ.s[i]? = some (some ⟨R, a⟩)) : EE (tVar i) Γ R a := fun σ w q Q k =>
  let ⟨v, h1, h2⟩ := q.im i _ h
  ⟨v, h1, k v w (Le.refl w) h2⟩
theorem ee_c {v : V} {a : α} (h : ∀ H, R.r a v H) : EE (tC v) Γ R a := fun σ w q Q k => k v w (Le.refl w) (h _)
theorem ee_int {i : Int} : EE (tC (.int i)) Γ rInt i := ee_c fun _ => rfl
theorem ee_str {i : Str} : EE (tC (.str i)) Γ rStr i := ee_c fun _ => rfl
theorem ee_bl {i : Bool} : EE (tC (.bl i)) Γ rBool i := ee_c fun _ => rfl
theorem ee_non : EE (tC .non) Γ (rOpt R) none := ee_c fun _ => rfl
theorem ee_ty {n : String} : EE (tC (.ty n)) Γ rV (.ty n) := ee_c fun _ => rfl

/-! #### operators -/
/-- two operands, then an operation that lays nothing -/
theorem ee_op0 {r : R2} {a : α} {b : β} {c : γ} (ha : EE ta Γ R a) (hb : EE tb Γ S b) (hr : ∀ x y (w : Wd) (Q : VK), R.r a x w.b → S.r b y w.b → (∀ v, T.r c v w.b → Q v w.h) → r x y w.h Q) : EE (tOp r ta tb) Γ T c := fun σ w q Q k =>
  ha σ w q _ fun x u1 l1 r1 => hb σ u1 (q.mono l1) _ fun y u2 l2 r2 => hr x y u2 Q (R.mono l2.b r1) r2 fun v r3 => k v u2 (l1.trans l2) r3
theorem ee_op {r : R2} {a : α} {b : β} {c : γ} (ha : EE ta Γ R a) (hb : EE tb Γ S b) (hr : ∀ x y (w : Wd) (Q : VK), R.r a x w.b → S.r b y w.b → (∀ v u, Le w u → T.r c v u.b → Q v u.h) → r x y w.h Q) : EE (tOp r ta tb) Γ T c := fun σ w q Q k =>
  ha σ w q _ fun x u1 l1 r1 => hb σ u1 (q.mono l1) _ fun y u2 l2 r2 => hr x y u2 Q (R.mono l2.b r1) r2 fun v u3 l3 r3 => k v u3 ((l1.trans l2).trans l3) r3
theorem ee_I0 {g : Int → Int → V} {i j : Int} {c : γ} (ha : EE ta Γ rInt i) (hb : EE tb Γ rInt j) (h : ∀ H, T.r c (g i j) H) : EE (tOp (rI0 g) ta tb) Γ T c :=
  ee_op0 ha hb fun x y w Q r1 r2 k => ⟨i, j, r1, r2, k _ (h _)⟩
theorem ee_I {C : Int → Int → Prop} {g : Int → Int → V} {i j : Int} {c : γ} (ha : EE ta Γ rInt i) (hb : EE tb Γ rInt j) (hc : C i j) (h : ∀ H, T.r c (g i j) H) : EE (tOp (rI C g) ta tb) Γ T c :=
  ee_op0 ha hb fun x y w Q r1 r2 k => ⟨i, j, r1, r2, hc, k _ (h _)⟩
theorem ee_eqI {i j : Int} (ha : EE ta Γ rInt i) (hb : EE tb Γ rInt j) : EE (tOp rEq ta tb) Γ rBool (decide (i = j)) :=
  ee_op0 ha hb fun x y w Q r1 r2 k => by
    have r1 : x = .int i := r1
    have r2 : y = .int j := r2
    subst r1 r2
    refine ⟨rfl, k _ ?_⟩
    show V.bl _ = V.bl _
    by_cases h : i = j
    · simp [h]
    · simp [h]
theorem ee_neI {i j : Int} (ha : EE ta Γ rInt i) (hb : EE tb Γ rInt j) : EE (tOp rNe ta tb) Γ rBool (!decide (i = j)) :=
  ee_op0 ha hb fun x y w Q r1 r2 k => by
    have r1 : x = .int i := r1
    have r2 : y = .int j := r2
    subst r1 r2
    refine ⟨rfl, k _ ?_⟩
    show V.bl _ = V.bl _
    by_cases h : i = j
    · simp [h]
    · simp [h]
theorem ee_eqS {i j : Str} (ha : EE ta Γ rStr i) (hb : EE tb Γ rStr j) : EE (tOp rEq ta tb) Γ rBool (decide (i = j)) :=
  ee_op0 ha hb fun x y w Q r1 r2 k => by
    have r1 : x = .str i := r1
    have r2 : y = .str j := r2
    subst r1 r2
    refine ⟨rfl, k _ ?_⟩
    show V.bl _ = V.bl _
    by_cases h : i = j
    · simp [h]
    · simp [h]
theorem ee_neS {i j : Str} (ha : EE ta Γ rStr i) (hb : EE tb Γ rStr j) : EE (tOp rNe ta tb) Γ rBool (!decide (i = j)) :=
  ee_op0 ha hb fun x y w Q r1 r2 k => by
    have r1 : x = .str i := r1
    have r2 : y = .str j := r2
    subst r1 r2
    refine ⟨rfl, k _ ?_⟩
    show V.bl _ = V.bl _
    by_cases h : i = j
    · simp [h]
    · simp [h]
/-- None is none of these -/
def NoNon (R : Rel α) : Prop := ∀ a H, ¬ R.r a .non H
theorem ee_notN {a : Option α} (ha : EE ta Γ (rOpt R) a) (hn : NoNon R) : EE (tOp rNotN ta (tC .non)) Γ rBool a.isSome :=
  ee_op0 ha (ee_c (R := rV) (a := .non) fun _ => rfl) fun x y w Q r1 r2 k => ⟨r2, k _ (by
    show V.bl _ = V.bl _
    cases a with
    | none =>
      have r1 : x = .non := r1
      subst r1
      rfl
    | some a =>
      have : x ≠ .non := fun e => hn a w.b (e ▸ r1)
      simp [this])⟩
theorem noNon_L : NoNon (rL R) := fun a H ⟨p, xs, h, _⟩ => nomatch h
theorem noNon_T : NoNon (rT R) := fun a H ⟨p, xs, h, _⟩ => nomatch h
theorem noNon_S : NoNon rStr := fun a H h => nomatch (show V.non = V.str a from h)

/-! #### membership -/
theorem flat_ints (ns : List Int) : (ns.map V.int).all flatV = true := by
  rw [List.all_eq_true]
  intro x hx
  obtain ⟨n, _, rfl⟩ := List.mem_map.mp hx
  rfl
theorem flat_strs (ns : List Str) : (ns.map V.str).all flatV = true := by
  rw [List.all_eq_true]
  intro x hx
  obtain ⟨n, _, rfl⟩ := List.mem_map.mp hx
  rfl
theorem inV_ints (i : Int) : ∀ ns : List Int, inV (.int i) (ns.map V.int) = decide (i ∈ ns)
  | [] => rfl
  | n :: ns => by
    have ih := inV_ints i ns
    unfold inV at ih ⊢
    rw [List.map_cons, List.any_cons, ih]
    by_cases h : n = i
    · subst h
      simp [eqV]
    · have h' : ¬ i = n := fun e => h e.symm
      simp [eqV, h, h']
theorem inV_strs (i : Str) : ∀ ns : List Str, inV (.str i) (ns.map V.str) = decide (i ∈ ns)
  | [] => rfl
  | n :: ns => by
    have ih := inV_strs i ns
    unfold inV at ih ⊢
    rw [List.map_cons, List.any_cons, ih]
    by_cases h : n = i
    · subst h
      simp [eqV]
    · have h' : ¬ i = n := fun e => h e.symm
      simp [eqV, h, h']
theorem ints_of {b : Hp} {ns : List Int} {xs : List V} (h : P2 (fun a x => rInt.r a x b) ns xs) : xs = ns.map V.int := P2.fn (f := V.int) (fun _ _ q => q) h
theorem strs_of {b : Hp} {ns : List Str} {xs : List V} (h : P2 (fun a x => rStr.r a x b) ns xs) : xs = ns.map V.str := P2.fn (f := V.str) (fun _ _ q => q) h
theorem bls_of {b : Hp} {ns : List Bool} {xs : List V} (h : P2 (fun a x => rBool.r a x b) ns xs) : xs = ns.map V.bl := P2.fn (f := V.bl) (fun _ _ q => q) h
theorem p2_ints {b : Hp} (ns : List Int) : P2 (fun a x => rInt.r a x b) ns (ns.map V.int) := P2.of fun _ _ => rfl
theorem ee_inT {i : Int} {ns : List Int} (ha : EE ta Γ rInt i) (hb : EE tb Γ (rT rInt) ns) : EE (tOp (rIn K false) ta tb) Γ rBool (decide (i ∈ ns)) :=
  ee_op0 ha hb fun x y w Q r1 r2 k => by
    obtain ⟨p, xs, rfl, hp, h⟩ := r2
    have r1 : x = .int i := r1
    obtain rfl := ints_of h
    rw [r1]
    exact ⟨p, _, rfl, .inr (SqT.of (w.ex _ _ hp)), rfl, flat_ints ns, k _ (by rw [inV_ints]; rfl)⟩
theorem ee_inL {i : Int} {ns : List Int} (ha : EE ta Γ rInt i) (hb : EE tb Γ (rL rInt) ns) : EE (tOp (rIn K false) ta tb) Γ rBool (decide (i ∈ ns)) :=
  ee_op0 ha hb fun x y w Q r1 r2 k => by
    obtain ⟨p, xs, rfl, hp, h⟩ := r2
    have r1 : x = .int i := r1
    obtain rfl := ints_of h
    rw [r1]
    exact ⟨p, _, rfl, .inl (SqL.of (w.ex _ _ hp)), rfl, flat_ints ns, k _ (by rw [inV_ints]; rfl)⟩
theorem ee_niL {i : Int} {ns : List Int} (ha : EE ta Γ rInt i) (hb : EE tb Γ (rL rInt) ns) : EE (tOp (rIn K true) ta tb) Γ rBool (!decide (i ∈ ns)) :=
  ee_op0 ha hb fun x y w Q r1 r2 k => by
    obtain ⟨p, xs, rfl, hp, h⟩ := r2
    have r1 : x = .int i := r1
    obtain rfl := ints_of h
    rw [r1]
    exact ⟨p, _, rfl, .inl (SqL.of (w.ex _ _ hp)), rfl, flat_ints ns, k _ (by rw [inV_ints]; rfl)⟩
theorem ee_inW {i : Str} {ns : List Str} (ha : EE ta Γ rStr i) (hb : EE tb Γ (rWords K) ns) : EE (tOp (rIn K false) ta tb) Γ rBool (decide (i ∈ ns)) :=
  ee_op0 ha hb fun x y w Q r1 r2 k => by
    obtain ⟨p, rfl, hp⟩ := r2
    have r1 : x = .str i := r1
    rw [r1]
    exact ⟨p, _, rfl, .inr (ex_t w.ex hp), rfl, flat_strs ns, k _ (by rw [inV_strs]; rfl)⟩

/-! #### items -/
theorem atI_of {xs : List V} {i : Int} {v : V} (h0 : 0 ≤ i) (h : xs[i.toNat]? = some v) : atI xs i = some v := by
  have e : i = ((i.toNat : Nat) : Int) := by omega
  rw [e]
  exact atI_nat h
theorem ee_ixT {as : List α} {i : Int} {a : α} (ha : EE ta Γ (rT R) as) (hb : EE tb Γ rInt i) (h0 : 0 ≤ i) (h : as[i.toNat]? = some a) : EE (tOp (rIxT K) ta tb) Γ R a :=
  ee_op0 ha hb fun x y w Q r1 r2 k => by
    obtain ⟨p, xs, rfl, hp, hx⟩ := r1
    obtain ⟨v, hv, rv⟩ := hx.at h
    exact ⟨p, xs, i, v, rfl, r2, SqT.of (w.ex _ _ hp), atI_of h0 hv, k v rv⟩
theorem ee_ixL {as : List α} {i : Int} {a : α} (ha : EE ta Γ (rL R) as) (hb : EE tb Γ rInt i) (h0 : 0 ≤ i) (h : as[i.toNat]? = some a) : EE (tOp (rIxL K) ta tb) Γ R a :=
  ee_op0 ha hb fun x y w Q r1 r2 k => by
    obtain ⟨p, xs, rfl, hp, hx⟩ := r1
    obtain ⟨v, hv, rv⟩ := hx.at h
    exact ⟨p, xs, i, v, rfl, r2, SqL.of (w.ex _ _ hp), atI_of h0 hv, k v rv⟩
theorem ee_ixS {ns : List Int} {i n : Int} (ha : EE ta Γ (rScr K) ns) (hb : EE tb Γ rInt i) (h0 : 0 ≤ i) (h : ns[i.toNat]? = some n) : EE (tOp (rIxL K) ta tb) Γ rInt n :=
  ee_op0 ha hb fun x y w Q r1 r2 k => by
    obtain ⟨p, rfl, hp⟩ := r1
    exact ⟨p, _, i, .int n, rfl, r2, ex_l w.ex hp, atI_of h0 (by rw [List.getElem?_map, h]; rfl), k _ rfl⟩
theorem ee_fst {a : α × β} (ha : EE ta Γ (rP R S) a) : EE (tOp (rIxT K) ta (tC (.int 0))) Γ R a.1 :=
  ee_op0 ha (ee_int (i := 0)) fun x y w Q r1 r2 k => by
    obtain ⟨p, x, z, rfl, hp, h1, h2⟩ := r1
    exact ⟨p, _, 0, x, rfl, r2, SqT.of (w.ex _ _ hp), atI_nat (j := 0) rfl, k _ h1⟩
theorem ee_snd {a : α × β} (ha : EE ta Γ (rP R S) a) : EE (tOp (rIxT K) ta (tC (.int 1))) Γ S a.2 :=
  ee_op0 ha (ee_int (i := 1)) fun x y w Q r1 r2 k => by
    obtain ⟨p, x, z, rfl, hp, h1, h2⟩ := r1
    exact ⟨p, _, 1, z, rfl, r2, SqT.of (w.ex _ _ hp), atI_nat (j := 1) rfl, k _ h2⟩
theorem ee_3_0 {a : α × β × γ} (ha : EE ta Γ (rP3 R S T) a) : EE (tOp (rIxT K) ta (tC (.int 0))) Γ R a.1 :=
  ee_op0 ha (ee_int (i := 0)) fun x y w Q r1 r2 k => by
    obtain ⟨p, x, z, z2, rfl, hp, h1, h2, h3⟩ := r1
    exact ⟨p, _, 0, x, rfl, r2, SqT.of (w.ex _ _ hp), atI_nat (j := 0) rfl, k _ h1⟩
theorem ee_3_1 {a : α × β × γ} (ha : EE ta Γ (rP3 R S T) a) : EE (tOp (rIxT K) ta (tC (.int 1))) Γ S a.2.1 :=
  ee_op0 ha (ee_int (i := 1)) fun x y w Q r1 r2 k => by
    obtain ⟨p, x, z, z2, rfl, hp, h1, h2, h3⟩ := r1
    exact ⟨p, _, 1, z, rfl, r2, SqT.of (w.ex _ _ hp), atI_nat (j := 1) rfl, k _ h2⟩
theorem ee_3_2 {a : α × β × γ} (ha : EE ta Γ (rP3 R S T) a) : EE (tOp (rIxT K) ta (tC (.int 2))) Γ T a.2.2 :=
  ee_op0 ha (ee_int (i := 2)) fun x y w Q r1 r2 k => by
    obtain ⟨p, x, z, z2, rfl, hp, h1, h2, h3⟩ := r1
    exact ⟨p, _, 2, z2, rfl, r2, SqT.of (w.ex _ _ hp), atI_nat (j := 2) rfl, k _ h3⟩

/-! #### displays -/
theorem ea_nil : EA tNil Γ [] := fun σ w q Q k => k [] w (Le.refl w) .nil
theorem ea_cons {a : α} (ha : EE ta Γ R a) (hr : EA tr Γ ms) : EA (tCons ta tr) Γ (⟨R, a⟩ :: ms) := fun σ w q Q k =>
  ha σ w q _ fun x u1 l1 r1 => hr σ u1 (q.mono l1) _ fun xs u2 l2 r2 => k (x :: xs) u2 (l1.trans l2) (.cons (R.mono l2.b r1) r2)
theorem ee_tup2 {a : α} {b : β} (ha : EE ta Γ R a) (hb : EE tb Γ S b) : EE (tTup (tCons ta (tCons tb tNil))) Γ (rP R S) (a, b) := fun σ w q Q k =>
  ha σ w q _ fun x u1 l1 r1 => hb σ u1 (q.mono l1) _ fun y u2 l2 r2 => ⟨by show 2 ≤ sizeLine; decide, fun p hp => by
    refine k (.ref p) (u2.new p _) ((l1.trans l2).trans (Le.new hp)) ⟨p, x, y, rfl, Wd.new_at, R.mono (Le.new hp).b (R.mono l2.b r1), S.mono (Le.new hp).b r2⟩⟩
theorem ee_tup3 {a : α} {b : β} {c : γ} (ha : EE ta Γ R a) (hb : EE tb Γ S b) (hc : EE tc Γ T c) : EE (tTup (tCons ta (tCons tb (tCons tc tNil)))) Γ (rP3 R S T) (a, b, c) := fun σ w q Q k =>
  ha σ w q _ fun x u1 l1 r1 => hb σ u1 (q.mono l1) _ fun y u2 l2 r2 => hc σ u2 ((q.mono l1).mono l2) _ fun z u3 l3 r3 => ⟨by show 3 ≤ sizeLine; decide, fun p hp => by
    refine k (.ref p) (u3.new p _) (((l1.trans l2).trans l3).trans (Le.new hp)) ⟨p, x, y, z, rfl, Wd.new_at, R.mono (Le.new hp).b (R.mono l3.b (R.mono l2.b r1)), S.mono (Le.new hp).b (S.mono l3.b r2), T.mono (Le.new hp).b r3⟩⟩
/-- items of one kind -/
def EAs (ta : TA) (Γ : Ctx) (R : Rel α) (as : List α) : Prop := ∀ σ w, Sat Γ σ w → ∀ Q : List V → Hp → Prop, (∀ vs u, Le w u → P2 (fun a v => R.r a v u.b) as vs → Q vs u.h) → ta σ w.h Q
theorem eas_nil : EAs tNil Γ R [] := fun σ w q Q k => k [] w (Le.refl w) .nil
theorem eas_cons {a : α} {as : List α} (ha : EE ta Γ R a) (hr : EAs tr Γ R as) : EAs (tCons ta tr) Γ R (a :: as) := fun σ w q Q k =>
  ha σ w q _ fun x u1 l1 r1 => hr σ u1 (q.mono l1) _ fun xs u2 l2 r2 => k (x :: xs) u2 (l1.trans l2) (.cons (R.mono l2.b r1) r2)
theorem ee_lst {as : List α} (h : EAs tr Γ R as) (hl : as.length ≤ 100000) : EE (tLst tr) Γ (rL R) as := fun σ w q Q k =>
  h σ w q _ fun xs u l r => ⟨sz_of (by rw [← r.len]; exact hl), fun p hp => k (.ref p) (u.new p _) (l.trans (Le.new hp)) ⟨p, xs, rfl, Wd.new_at, r.mono fun _ _ z => R.mono (Le.new hp).b z⟩⟩
theorem ee_tup {as : List α} (h : EAs tr Γ R as) (hl : as.length ≤ 100000) : EE (tTup tr) Γ (rT R) as := fun σ w q Q k =>
  h σ w q _ fun xs u l r => ⟨sz_of (by rw [← r.len]; exact hl), fun p hp => k (.ref p) (u.new p _) (l.trans (Le.new hp)) ⟨p, xs, rfl, Wd.new_at, r.mono fun _ _ z => R.mono (Le.new hp).b z⟩⟩

/-! #### built-ins -/
/-- one argument -/
theorem ee_call1 {r : List V → Hp → VK → Prop} {a : α} {c : γ} (ha : EE ta Γ R a) (hr : ∀ x (w : Wd) (Q : VK), R.r a x w.b → (∀ v u, Le w u → T.r c v u.b → Q v u.h) → r [x] w.h Q) : EE (tCB r (tCons ta tNil)) Γ T c := fun σ w q Q k =>
  ha σ w q _ fun x u1 l1 r1 => hr x u1 Q r1 fun v u l r => k v u (l1.trans l) r
theorem ee_call2 {r : List V → Hp → VK → Prop} {a : α} {b : β} {c : γ} (ha : EE ta Γ R a) (hb : EE tb Γ S b) (hr : ∀ x y (w : Wd) (Q : VK), R.r a x w.b → S.r b y w.b → (∀ v u, Le w u → T.r c v u.b → Q v u.h) → r [x, y] w.h Q) : EE (tCB r (tCons ta (tCons tb tNil))) Γ T c := fun σ w q Q k =>
  ha σ w q _ fun x u1 l1 r1 => hb σ u1 (q.mono l1) _ fun y u2 l2 r2 => hr x y u2 Q (R.mono l2.b r1) r2 fun v u l r => k v u ((l1.trans l2).trans l) r
theorem ee_lenL {as : List α} (ha : EE ta Γ (rL R) as) : EE (tCB (rLenS K) (tCons ta tNil)) Γ rInt (as.length : Int) := ee_call1 ha fun x w Q r k => by
  obtain ⟨p, xs, rfl, hp, h⟩ := r
  exact ⟨p, xs, rfl, .inl (SqL.of (w.ex _ _ hp)), k _ w (Le.refl w) (by rw [h.len]; rfl)⟩
theorem ee_lenT {as : List α} (ha : EE ta Γ (rT R) as) : EE (tCB (rLenS K) (tCons ta tNil)) Γ rInt (as.length : Int) := ee_call1 ha fun x w Q r k => by
  obtain ⟨p, xs, rfl, hp, h⟩ := r
  exact ⟨p, xs, rfl, .inr (SqT.of (w.ex _ _ hp)), k _ w (Le.refl w) (by rw [h.len]; rfl)⟩
theorem ee_lenP {a : α × β} (ha : EE ta Γ (rP R S) a) : EE (tCB (rLenS K) (tCons ta tNil)) Γ rInt 2 := ee_call1 ha fun x w Q r k => by
  obtain ⟨p, x, y, rfl, hp, h⟩ := r
  exact ⟨p, _, rfl, .inr (SqT.of (w.ex _ _ hp)), k _ w (Le.refl w) rfl⟩
theorem ee_lenP3 {a : α × β × γ} (ha : EE ta Γ (rP3 R S T) a) : EE (tCB (rLenS K) (tCons ta tNil)) Γ rInt 3 := ee_call1 ha fun x w Q r k => by
  obtain ⟨p, x, y, z, rfl, hp, h⟩ := r
  exact ⟨p, _, rfl, .inr (SqT.of (w.ex _ _ hp)), k _ w (Le.refl w) rfl⟩
theorem ee_lenS {ns : List Int} (ha : EE ta Γ (rScr K) ns) : EE (tCB (rLenS K) (tCons ta tNil)) Γ rInt (ns.length : Int) := ee_call1 ha fun x w Q r k => by
  obtain ⟨p, rfl, hp⟩ := r
  exact ⟨p, _, rfl, .inl (ex_l w.ex hp), k _ w (Le.refl w) (by rw [List.length_map]; rfl)⟩
theorem ee_listL {as : List α} (ha : EE ta Γ (rL R) as) : EE (tCB (rListS K) (tCons ta tNil)) Γ (rL R) as := ee_call1 ha fun x w Q r k => by
  obtain ⟨p, xs, rfl, hp, h⟩ := r
  exact ⟨p, xs, rfl, .inl (SqL.of (w.ex _ _ hp)), fun l hl => k _ (w.new l _) (Le.new hl) ⟨l, xs, rfl, Wd.new_at, h.mono fun _ _ z => R.mono (Le.new hl).b z⟩⟩
theorem ee_listT {as : List α} (ha : EE ta Γ (rT R) as) : EE (tCB (rListS K) (tCons ta tNil)) Γ (rL R) as := ee_call1 ha fun x w Q r k => by
  obtain ⟨p, xs, rfl, hp, h⟩ := r
  exact ⟨p, xs, rfl, .inr (SqT.of (w.ex _ _ hp)), fun l hl => k _ (w.new l _) (Le.new hl) ⟨l, xs, rfl, Wd.new_at, h.mono fun _ _ z => R.mono (Le.new hl).b z⟩⟩
def rTupS (K : PySem.W.Frag) : List V → Hp → VK → Prop := fun xs H Q => ∃ p ys, xs = [.ref p] ∧ ((SqL K H p ys ∧ ∀ l, H l = none → Q (.ref l) (upd H l (.tup ys))) ∨ (SqT K H p ys ∧ Q (.ref p) H))
theorem ee_tupL {as : List α} (ha : EE ta Γ (rL R) as) : EE (tCB (rTupS K) (tCons ta tNil)) Γ (rT R) as := ee_call1 ha fun x w Q r k => by
  obtain ⟨p, xs, rfl, hp, h⟩ := r
  exact ⟨p, xs, rfl, .inl ⟨SqL.of (w.ex _ _ hp), fun l hl => k _ (w.new l _) (Le.new hl) ⟨l, xs, rfl, Wd.new_at, h.mono fun _ _ z => R.mono (Le.new hl).b z⟩⟩⟩
theorem ee_any {bs : List Bool} (ha : EE ta Γ (rL rBool) bs) : EE (tCB (rAny K) (tCons ta tNil)) Γ rBool (bs.any id) := ee_call1 ha fun x w Q r k => by
  obtain ⟨p, xs, rfl, hp, h⟩ := r
  rw [bls_of h] at hp
  exact ⟨p, bs, rfl, SqL.of (w.ex _ _ hp), k _ w (Le.refl w) rfl⟩
theorem ee_all {bs : List Bool} (ha : EE ta Γ (rL rBool) bs) : EE (tCB (rAll K) (tCons ta tNil)) Γ rBool (bs.all id) := ee_call1 ha fun x w Q r k => by
  obtain ⟨p, xs, rfl, hp, h⟩ := r
  rw [bls_of h] at hp
  exact ⟨p, bs, rfl, SqL.of (w.ex _ _ hp), k _ w (Le.refl w) rfl⟩
def rInt1 : List V → Hp → VK → Prop := fun xs H Q => (∃ i, xs = [.int i] ∧ Q (.int i) H) ∨ ∃ k, xs = [.bl k] ∧ Q (.int (if k then 1 else 0)) H
theorem ee_intB {b : Bool} (ha : EE ta Γ rBool b) : EE (tCB rInt1 (tCons ta tNil)) Γ rInt (if b then 1 else 0) := ee_call1 ha fun x w Q r k => .inr ⟨b, by rw [show x = V.bl b from r], k _ w (Le.refl w) rfl⟩
def rAbs : List V → Hp → VK → Prop := fun xs H Q => ∃ i, xs = [.int i] ∧ Q (.int (if i < 0 then -i else i)) H
theorem ee_abs {i : Int} (ha : EE ta Γ rInt i) : EE (tCB rAbs (tCons ta tNil)) Γ rInt (if i < 0 then -i else i) := ee_call1 ha fun x w Q r k => ⟨i, by rw [show x = V.int i from r], k _ w (Le.refl w) rfl⟩
theorem ee_max2 {i j : Int} (ha : EE ta Γ rInt i) (hb : EE tb Γ rInt j) : EE (tCB rMax2 (tCons ta (tCons tb tNil))) Γ rInt (if j > i then j else i) := ee_call2 ha hb fun x y w Q r1 r2 k => ⟨i, j, by rw [show x = V.int i from r1, show y = V.int j from r2], k _ w (Le.refl w) rfl⟩

/-! #### sorted ints: the one sorted list -/
def isort : List Int → List Int
  | [] => []
  | x :: xs => ins x (isort xs)
where ins (x : Int) : List Int → List Int
  | [] => [x]
  | y :: ys => if x ≤ y then x :: y :: ys else y :: ins x ys
theorem ins_perm (x : Int) : ∀ ys : List Int, (isort.ins x ys).Perm (x :: ys)
  | [] => List.Perm.refl _
  | y :: ys => by
    unfold isort.ins
    split
    · exact List.Perm.refl _
    · exact ((ins_perm x ys).cons y).trans (List.Perm.swap x y ys)
theorem isort_perm : ∀ xs : List Int, (isort xs).Perm xs
  | [] => List.Perm.refl _
  | x :: xs => (ins_perm x _).trans ((isort_perm xs).cons x)
theorem ins_up (x : Int) : ∀ ys : List Int, ys.Pairwise (· ≤ ·) → (isort.ins x ys).Pairwise (· ≤ ·)
  | [], _ => List.pairwise_singleton _ _
  | y :: ys, h => by
    rw [List.pairwise_cons] at h
    unfold isort.ins
    split
    · rename_i hxy
      refine List.pairwise_cons.mpr ⟨fun z hz => ?_, List.pairwise_cons.mpr h⟩
      rcases List.mem_cons.mp hz with rfl | hz
      · exact hxy
      · exact Int.le_trans hxy (h.1 z hz)
    · rename_i hxy
      refine List.pairwise_cons.mpr ⟨fun z hz => ?_, ins_up x ys h.2⟩
      rcases List.mem_cons.mp ((ins_perm x ys).mem_iff.mp hz) with rfl | hz
      · omega
      · exact h.1 z hz
theorem isort_up : ∀ xs : List Int, (isort xs).Pairwise (· ≤ ·)
  | [] => List.Pairwise.nil
  | x :: xs => ins_up x _ (isort_up xs)
/-- two lists in order with the same items are one -/
theorem up_unique {xs ys : List Int} (p : xs.Perm ys) (hx : xs.Pairwise (· ≤ ·)) (hy : ys.Pairwise (· ≤ ·)) : xs = ys :=
  List.Perm.eq_of_pairwise (le := (· ≤ ·)) (fun a b _ _ h1 h2 => Int.le_antisymm h1 h2) hx hy p
theorem isort_of {xs ys : List Int} (p : ys.Perm xs) (h : ys.Pairwise (· ≤ ·)) : ys = isort xs := up_unique (p.trans (isort_perm xs).symm) h (isort_up xs)
theorem isort_eq {xs ys : List Int} : isort xs = isort ys ↔ xs.Perm ys :=
  ⟨fun e => (isort_perm xs).symm.trans (e ▸ isort_perm ys), fun p => up_unique ((isort_perm xs).trans (p.trans (isort_perm ys).symm)) (isort_up xs) (isort_up ys)⟩
theorem ee_sortI {ns : List Int} (ha : EE ta Γ (rL rInt) ns) : EE (tCB (rSortedI K) (tCons ta tNil)) Γ (rL rInt) (isort ns) := ee_call1 ha fun x w Q r k => by
  obtain ⟨p, xs, rfl, hp, h⟩ := r
  rw [ints_of h] at hp
  refine ⟨p, ns, rfl, SqL.of (w.ex _ _ hp), fun ns' l pm up hl => ?_⟩
  rw [isort_of pm up]
  exact k _ (w.new l _) (Le.new hl) ⟨l, _, rfl, Wd.new_at, p2_ints _⟩
end
end EM

set_option Elab.async false
set_option linter.all false
set_option maxRecDepth 100000
set_option maxHeartbeats 1000000
/-! EmK2: tests, walks, comprehensions, statements, calls over the typed layer. -/
namespace EM
open PySem PySem.Spec PyProof.Rows L2 Evl
section
variable {α β γ δ : Type} {Γ Γ' : Ctx} {R : Rel α} {S : Rel β} {T : Rel γ} {U : Rel δ} {K : PySem.W.Frag} {te ta tb tc tl : TE} {tt t u : TT} {tr : TA} {ms : List Imm} {w0 : Ent} {D : Ends} {tz tu tw : TS} {g : TG} {wi : TI}

/-! ### tests -/
theorem et_test {b : Bool} (h : EE te Γ rBool b) : ET (tTest te) Γ b := fun σ w q Q k => h σ w q _ fun v u l r => ⟨b, r, k u l⟩
theorem et_B {b : Bool} (h : EE te Γ rBool b) : ET (tB te) Γ b := fun σ w q Q k => h σ w q _ fun v u l r => ⟨b, r, k u l⟩
theorem et_yes : ET tYes Γ true := fun σ w q Q k => k w (Le.refl w)
theorem et_not {b : Bool} (h : ET t Γ b) : ET (tNot t) Γ (!b) := fun σ w q Q k => h σ w q _ fun u l => k u l
theorem et_and {a b : Bool} (h1 : ET t Γ a) (h2 : a = true → ET u Γ b) : ET (tAnd t u) Γ (a && b) := fun σ w q Q k => h1 σ w q _ fun x l => by
  cases a with
  | true =>
    show u σ x.h Q
    exact h2 rfl σ x (q.mono l) Q fun y l2 => k y (l.trans l2)
  | false =>
    show Q false x.h
    exact k x l
theorem et_or {a b : Bool} (h1 : ET t Γ a) (h2 : a = false → ET u Γ b) : ET (tOr t u) Γ (a || b) := fun σ w q Q k => h1 σ w q _ fun x l => by
  cases a with
  | true =>
    show Q true x.h
    exact k x l
  | false =>
    show u σ x.h Q
    exact h2 rfl σ x (q.mono l) Q fun y l2 => k y (l.trans l2)
theorem ee_andV {a b : Bool} (h1 : EE ta Γ rBool a) (h2 : a = true → EE tb Γ rBool b) : EE (tAndV ta tb) Γ rBool (a && b) := fun σ w q Q k => h1 σ w q _ fun x u l r => ⟨a, r, by
  cases a with
  | true =>
    show tb σ u.h Q
    exact h2 rfl σ u (q.mono l) Q fun v y l2 r2 => k v y (l.trans l2) r2
  | false =>
    show Q (.bl false) u.h
    exact k _ u l rfl⟩
theorem ee_notV {a : Bool} (h1 : EE ta Γ rBool a) : EE (tNotV ta) Γ rBool (!a) := fun σ w q Q k => h1 σ w q _ fun x u l r => ⟨a, r, k _ u l rfl⟩

/-! ### walks -/
theorem ei_tup {as : List α} (h : EE tl Γ (rT R) as) : EI (iTup K tl) Γ R as := fun σ w q RR k => h σ w q _ fun x u l r => by
  obtain ⟨p, xs, rfl, hp, hx⟩ := r
  refine ⟨p, rfl, ⟨xs, SqT.of (u.ex _ _ hp)⟩, k _ u l fun w' e => ?_⟩
  have hs : SqT K w'.h p xs := SqT.of (w'.ex _ _ (e _ _ hp))
  refine ⟨fun i hi => ?_, ⟨xs, hs, by rw [hx.len]; exact Nat.le_refl _⟩, fun i x H' hi y => ?_⟩
  · obtain ⟨v, hv, _⟩ := hx.at (List.getElem?_eq_getElem hi)
    exact ⟨xs, v, hs, hv⟩
  · obtain ⟨rfl, y⟩ := y
    obtain ⟨a, ha, ra⟩ := hx.atr (y xs hs)
    exact ⟨w', a, rfl, Le.refl _, ha, R.mono e ra⟩
theorem ei_list {as : List α} (h : EE tl Γ (rL R) as) : EI (iList K tl) Γ R as := fun σ w q RR k => h σ w q _ fun x u l r => by
  obtain ⟨p, xs, rfl, hp, hx⟩ := r
  refine ⟨p, rfl, ⟨xs, SqL.of (u.ex _ _ hp)⟩, k _ u l fun w' e => ?_⟩
  have hs : SqL K w'.h p xs := SqL.of (w'.ex _ _ (e _ _ hp))
  refine ⟨fun i hi => ?_, ⟨xs, hs, by rw [hx.len]; exact Nat.le_refl _⟩, fun i x H' hi y => ?_⟩
  · obtain ⟨v, hv, _⟩ := hx.at (List.getElem?_eq_getElem hi)
    exact ⟨xs, v, hs, hv⟩
  · obtain ⟨rfl, y⟩ := y
    obtain ⟨a, ha, ra⟩ := hx.atr (y xs hs)
    exact ⟨w', a, rfl, Le.refl _, ha, R.mono e ra⟩
theorem ei_words {ws : List Str} (h : EE tl Γ (rWords K) ws) : EI (iTup K tl) Γ rStr ws := fun σ w q RR k => h σ w q _ fun x u l r => by
  obtain ⟨p, rfl, hp⟩ := r
  refine ⟨p, rfl, ⟨_, ex_t u.ex hp⟩, k _ u l fun w' e => ?_⟩
  have hs : SqT K w'.h p (ws.map V.str) := ex_t w'.ex (ex_t e hp)
  refine ⟨fun i hi => ?_, ⟨_, hs, by rw [List.length_map]; exact Nat.le_refl _⟩, fun i x H' hi y => ?_⟩
  · exact ⟨_, .str ws[i], hs, by rw [List.getElem?_map, List.getElem?_eq_getElem hi]; rfl⟩
  · obtain ⟨rfl, y⟩ := y
    have y := y _ hs
    rw [List.getElem?_map] at y
    cases hw : ws[i]? with
    | none => rw [hw] at y; cases y
    | some a =>
      rw [hw] at y
      exact ⟨w', a, rfl, Le.refl _, rfl, (Option.some.inj y).symm⟩
/-- 0 .. n - 1 -/
def rng (n : Int) : List Int := (List.range n.toNat).map fun (i : Nat) => (i : Int)
theorem rng_len (n : Int) : (rng n).length = n.toNat := by unfold rng; rw [List.length_map, List.length_range]
theorem mem_rng {n i : Int} : i ∈ rng n ↔ 0 ≤ i ∧ i < n := by
  unfold rng
  rw [List.mem_map]
  constructor
  · rintro ⟨k, hk, rfl⟩
    have := List.mem_range.mp hk
    omega
  · intro h
    exact ⟨i.toNat, List.mem_range.mpr (by omega), by omega⟩
theorem rng_at {n : Int} {i : Nat} (h : (i : Int) < n) : (rng n)[i]? = some (i : Int) := by
  unfold rng
  rw [List.getElem?_map, List.getElem?_range (by omega)]
  rfl
theorem ei_range {n : Int} (h : EE te Γ rInt n) (h0 : n ≤ 1000000) (h1 : -1000000 ≤ n) : EI (iRng1 (tCons te tNil)) Γ rInt (rng n) := fun σ w q RR k => h σ w q _ fun x u l r => by
  refine ⟨n, by rw [show x = V.int n from r], by omega, by omega, k _ u l fun w' e => ?_⟩
  refine ⟨fun i hi => by rw [rng_len] at hi; exact hi, by rw [rng_len]; exact Nat.le_refl _, fun i x H' hi y => ?_⟩
  obtain ⟨rfl, rfl⟩ := y
  rw [rng_len] at hi
  exact ⟨w', i, rfl, Le.refl _, rng_at (by omega), by show V.int _ = V.int _; rw [Int.zero_add]⟩
/-- a .. b - 1 -/
def rng2 (a b : Int) : List Int := (List.range (b - a).toNat).map fun (i : Nat) => a + (i : Int)
theorem rng2_len (a b : Int) : (rng2 a b).length = (b - a).toNat := by unfold rng2; rw [List.length_map, List.length_range]
theorem ei_range2 {a b : Int} (ha : EE ta Γ rInt a) (hb : EE tb Γ rInt b) (h0 : -1000000 ≤ a ∧ a ≤ 1000000 ∧ -1000000 ≤ b ∧ b ≤ 1000000) : EI (iRng2 (tCons ta (tCons tb tNil))) Γ rInt (rng2 a b) := fun σ w q RR k => ha σ w q _ fun x u1 l1 r1 => hb σ u1 (q.mono l1) _ fun y u l r => by
  refine ⟨a, b, by rw [show x = V.int a from r1, show y = V.int b from r], by omega, k _ u (l1.trans l) fun w' e => ?_⟩
  refine ⟨fun i hi => by rw [rng2_len] at hi; exact hi, by rw [rng2_len]; exact Nat.le_refl _, fun i x H' hi y => ?_⟩
  obtain ⟨rfl, rfl⟩ := y
  rw [rng2_len] at hi
  refine ⟨w', a + (i : Int), rfl, Le.refl _, ?_, rfl⟩
  unfold rng2
  rw [List.getElem?_map, List.getElem?_range hi]
  rfl
/-- list(range(n)) -/
theorem ee_listRg {n : Int} (h : EE te Γ rInt n) (h0 : n ≤ 100000) (h1 : 0 ≤ n) : EE (tLstRg (tRg1 te)) Γ (rL rInt) (rng n) := fun σ w q Q k => h σ w q _ fun x u l r =>
  ⟨n, r, RgOk.of_le (Int.le_refl 0) (by omega) (by omega) h1, fun p hp => k _ (u.new p _) (l.trans (Le.new hp)) ⟨p, _, rfl, Wd.new_at, by
    have e : rgV 0 n = (rng n).map V.int := by
      unfold rgV rng
      rw [List.map_map, Int.sub_zero]
      refine List.map_congr_left fun i _ => ?_
      show V.int _ = V.int _
      rw [Int.zero_add]
    rw [e]
    exact p2_ints _⟩⟩

/-! ### targets -/
theorem eg_name {i : Nat} {a : α} : EG (gName i) [i] Γ R a (Γ.set i R a) := fun σ w v q r Q k =>
  k (σ.set i (some v)) w (Le.refl w) (sat_set q r) (by rw [List.length_set]) fun k hk => by
    rw [List.getElem?_set_ne]
    intro e
    exact hk (by simp [e])
theorem eg_pair {i j : Nat} {a : α × β} : EG (gTup K 2 (gCons (gName i) (gCons (gName j) gNil))) [i, j] Γ (rP R S) a ((Γ.set i R a.1).set j S a.2) := fun σ w v q r Q k => by
  obtain ⟨p, x, y, rfl, hp, h1, h2⟩ := r
  refine ⟨p, [x, y], rfl, SqT.of (w.ex _ _ hp), rfl, x, [y], rfl, y, [], rfl, rfl, ?_⟩
  refine k _ w (Le.refl w) (sat_set (sat_set q h1) h2) (by simp) fun k hk => ?_
  rw [List.getElem?_set_ne, List.getElem?_set_ne]
  · intro e
    exact hk (by simp [e])
  · intro e
    exact hk (by simp [e])

/-! ### comprehensions -/
theorem wipe_get (σ : L2.St) (k : Nat) : ∀ vs : List Nat, (wipe σ vs)[k]? = if k ∈ vs ∧ k < σ.length then some none else σ[k]?
  | [] => by simp [wipe]
  | v :: vs => by
    unfold wipe
    by_cases h : v = k
    · subst h
      by_cases hl : v < σ.length
      · rw [List.getElem?_set_self (by rw [wipe_length]; exact hl)]
        simp [hl]
      · rw [List.getElem?_eq_none (by rw [List.length_set, wipe_length]; omega)]
        simp [hl]
    · have h' : ¬ k = v := fun e => h e.symm
      rw [List.getElem?_set_ne h, wipe_get σ k vs]
      by_cases h2 : k ∈ vs <;> simp [h2, h']
theorem wipe_same {σ σ' : L2.St} {js vs : List Nat} (hl : σ'.length = σ.length) (hk : ∀ k, k ∉ js → σ'[k]? = (wipe σ vs)[k]?) (hj : ∀ j, j ∈ js → j ∈ vs) : wipe σ' vs = wipe σ vs := by
  apply List.ext_getElem?
  intro k
  rw [wipe_get, wipe_get]
  by_cases hv : k ∈ vs
  · simp only [hv, true_and, hl]
    by_cases h : k < σ.length
    · rw [if_pos h, if_pos h]
    · rw [if_neg h, if_neg h, List.getElem?_eq_none (by omega), List.getElem?_eq_none (by omega)]
  · simp only [hv, false_and, if_false]
    have : k ∉ js := fun q => hv (hj k q)
    rw [hk k this, wipe_get]
    simp [hv]
/-- the block's own slots know nothing yet -/
def Clear (Γ : Ctx) (vs : List Nat) : Prop := ∀ v, v ∈ vs → (∀ m, Γ.s[v]? ≠ some (some m)) ∧ ∀ C, Γ.o ≠ some (v, C)
theorem sat_wipe {σ : L2.St} {w : Wd} {vs : List Nat} (q : Sat Γ σ w) (hc : Clear Γ vs) : Sat Γ (wipe σ vs) w := by
  refine ⟨by rw [wipe_length, q.len], fun i m e => ?_, fun i C e => ?_⟩
  · obtain ⟨v, h1, h2⟩ := q.im i m e
    have hi : i ∉ vs := fun z => (hc i z).1 m e
    exact ⟨v, by rw [wipe_get]; simp [hi, h1], h2⟩
  · obtain ⟨p, o, h1, h2⟩ := q.ow i C e
    have hi : i ∉ vs := fun z => (hc i z).2 C e
    exact ⟨p, o, by rw [wipe_get]; simp [hi, h1], h2⟩
theorem take_succ_at {as : List α} {i : Nat} {a : α} (h : as[i]? = some a) : as.take (i + 1) = as.take i ++ [a] := by
  rw [List.take_add_one, h]
  rfl
theorem ee_lc {as : List α} {vs js : List Nat} {Γ' : α → Ctx} (f : α → Bool) (k : α → β) (hi : EI wi Γ R as) (hc : Clear Γ vs) (hj : ∀ j, j ∈ js → j ∈ vs) (hg : ∀ a, a ∈ as → EG g js Γ R a (Γ' a))
    (ht : ∀ a, a ∈ as → ET tt (Γ' a) (f a)) (he : ∀ a, a ∈ as → f a = true → EE te (Γ' a) S (k a)) (hl : as.length ≤ 90000) : EE (tLc wi g tt te vs) Γ (rL S) ((as.filter f).map k) := fun σ w q Q kk =>
  hi σ w q _ fun J u l iw => fun p hp => by
    refine ⟨fun i m H => m = as.length - i ∧ i ≤ as.length ∧ ∃ w1 : Wd, w1.h = H ∧ Le u w1 ∧ w1.b p = none ∧ ∃ ys, w1.h p = some (.lst ys) ∧ P2 (fun a x => S.r a x w1.b) (((as.take i).filter f).map k) ys,
      ⟨as.length, by simp, Nat.zero_le _, u.own p (.lst []) (u.free hp), rfl, Le.own hp, u.free hp, [], upd_same, .nil⟩, ?_⟩
    rintro i m H ⟨rfl, hle, w1, rfl, lw, hb, ys, hy, py⟩
    obtain ⟨i1, i2, i3⟩ := iw w1 lw.b
    by_cases hlt : i < as.length
    · refine .inr ⟨i1 i hlt, fun H' => ∃ w1 : Wd, w1.h = H' ∧ Le u w1 ∧ w1.b p = none ∧ ∃ ys, w1.h p = some (.lst ys) ∧ P2 (fun a x => S.r a x w1.b) (((as.take (i + 1)).filter f).map k) ys,
        fun H' h => ⟨as.length - (i + 1), by omega, rfl, hlt, h⟩, fun x H' hy' => ?_⟩
      obtain ⟨u1, a, rfl, l1, ha, ra⟩ := i3 i x H' hlt hy'
      have hm : a ∈ as := List.mem_of_getElem? ha
      have q1 : Sat Γ (wipe σ vs) u1 := sat_wipe (q.mono (l.trans (lw.trans l1))) hc
      have hb1 : u1.b p = none := l1.n p (.lst ys) trivial hy hb
      refine hg a hm (wipe σ vs) u1 x q1 ra _ fun σ2 u2 l2 q2 e2 s2 => ⟨wipe_same (by rw [e2, wipe_length]) s2 hj, ?_⟩
      refine ht a hm σ2 u2 q2 _ fun u3 l3 => ?_
      rw [take_succ_at ha, List.filter_append, List.map_append]
      have l13 := l1.trans (l2.trans l3)
      cases hf : f a with
      | false =>
        show ∃ w1 : Wd, _
        rw [List.filter_cons, hf]
        simp only [Bool.false_eq_true, if_false, List.filter_nil, List.map_nil, List.append_nil]
        exact ⟨u3, rfl, lw.trans l13, l13.n p (.lst ys) trivial hy hb, ys, l13.h _ _ hy, py.mono fun _ _ z => S.mono l13.b z⟩
      | true =>
        show te σ2 u3.h _
        refine he a hm hf σ2 u3 (q2.mono l3) _ fun y u4 l4 r4 => ?_
        have l14 := l13.trans l4
        refine ⟨ys, l14.h _ _ hy, ?_, u4.own p (.lst (ys ++ [y])) (l14.n p (.lst ys) trivial hy hb), rfl, Le.mut (lw.trans l14) hp (l14.n p (.lst ys) trivial hy hb), l14.n p (.lst ys) trivial hy hb, ys ++ [y], upd_same, ?_⟩
        · have h1 := py.len
          rw [← h1, List.length_map]
          have h2 := List.length_filter_le f (as.take i)
          rw [List.length_take] at h2
          exact sz_lt (by omega)
        · rw [List.filter_cons, hf]
          simp only [if_true, List.filter_nil, List.map_cons, List.map_nil]
          exact (py.mono fun _ _ z => S.mono l14.b z).snoc r4
    · have e : i = as.length := by omega
      subst e
      refine .inl ⟨i2, ?_⟩
      rw [List.take_length] at py
      exact kk _ (w1.fix p _ hy) (Le.fix (w0 := w) (l.trans lw) (by
        cases z : w.h p with
        | none => rfl
        | some o =>
          rw [l.h _ _ z] at hp
          cases hp) hb) ⟨p, ys, rfl, upd_same, py.mono fun _ _ z => S.mono (Ex.new hb) z⟩
/-- all of them -/
theorem ee_lcA {as : List α} {vs js : List Nat} {Γ' : α → Ctx} (k : α → β) (hi : EI wi Γ R as) (hc : Clear Γ vs) (hj : ∀ j, j ∈ js → j ∈ vs) (hg : ∀ a, a ∈ as → EG g js Γ R a (Γ' a))
    (he : ∀ a, a ∈ as → EE te (Γ' a) S (k a)) (hl : as.length ≤ 90000) : EE (tLc wi g tYes te vs) Γ (rL S) (as.map k) :=
  (ee_lc (fun _ => true) k hi hc hj hg (fun _ _ => et_yes) (fun a h _ => he a h) hl).is (by rw [List.filter_eq_self.mpr fun _ _ => rfl])

/-! ### statements -/
theorem go_asg {i : Nat} {a : α} (h : EE te Γ R a) (k : Go tz D (Γ.set i R a) w0) : Go (tSeq (tAsg te (gName i)) tz) D Γ w0 := fun σ w q =>
  h σ w q.sat _ fun v u l r => k (σ.set i (some v)) u (sats_set (q.mono l) r)
/-- something of which P holds -/
theorem go_asgX {i : Nat} {P : α → Prop} (h : EE te Γ (rEx P R) ()) (k : ∀ a, P a → Go tz D (Γ.set i R a) w0) : Go (tSeq (tAsg te (gName i)) tz) D Γ w0 := fun σ w q =>
  h σ w q.sat _ fun v u l ⟨a, p, r⟩ => k a p (σ.set i (some v)) u (sats_set (q.mono l) r)
theorem go_asgB {i : Nat} {F : β → α → Prop} {b : β} (h : EE te Γ (rBy F R) b) (k : ∀ a, F b a → Go tz D (Γ.set i R a) w0) : Go (tSeq (tAsg te (gName i)) tz) D Γ w0 := fun σ w q =>
  h σ w q.sat _ fun v u l ⟨a, p, r⟩ => k a p (σ.set i (some v)) u (sats_set (q.mono l) r)
/-- the owned slot is not among those stored into -/
def Keep (Γ Γ' : Ctx) (js : List Nat) : Prop := ∀ i C, Γ'.o = some (i, C) → i ∉ js ∧ ∃ C', Γ.o = some (i, C')
theorem Keep.none {js : List Nat} (h : Γ'.o = none) : Keep Γ Γ' js := fun i C e => by rw [h] at e; cases e
theorem sats_tgt {js : List Nat} {σ σ' : L2.St} {w u : Wd} (q : SatS Γ w0 σ w) (l : Le w u) (q' : Sat Γ' σ' u) (hk : Keep Γ Γ' js) (s : ∀ k, k ∉ js → σ'[k]? = σ[k]?) : SatS Γ' w0 σ' u :=
  ⟨q', q.le.trans l, q.kb.trans l.b, fun i C p e e2 => by
    obtain ⟨h1, C', h2⟩ := hk i C e
    exact q.new i C' p h2 (by rw [← s i h1]; exact e2)⟩
theorem go_tgt {js : List Nat} {a : α} (h : EE te Γ R a) (hg : EG g js Γ R a Γ') (hk : Keep Γ Γ' js) (k : Go tz D Γ' w0) : Go (tSeq (tAsg te g) tz) D Γ w0 := fun σ w q =>
  h σ w q.sat _ fun v u l r => hg σ u v (q.sat.mono l) r _ fun σ' x l2 q2 _ s => k σ' x (sats_tgt q (l.trans l2) q2 hk s)
/-- how a def may end -/
def Ret (R : Rel α) (a : α) (w0 : Ent) (D : Ends) : Prop := ∀ v u, Le w0.w u → R.r a v u.b → D.rt v u.h
theorem go_ret {a : α} (h : EE te Γ R a) (k : Ret R a w0 D) : Go (tSeq (tRet te) tz) D Γ w0 := fun σ w q =>
  h σ w q.sat _ fun v u l r => k v u (q.le.trans l) r
theorem go_ite {b : Bool} {t1 t2 : TS} (h : ET tt Γ b) (h1 : b = true → Go t1 { D with nx := tz D } Γ w0) (h2 : b = false → Go t2 { D with nx := tz D } Γ w0) : Go (tSeq (tIfS tt t1 t2) tz) D Γ w0 := fun σ w q =>
  h σ w q.sat _ fun u l => by
    cases b with
    | true =>
      show t1 { D with nx := tz D } σ u.h
      exact h1 rfl σ u (q.mono l)
    | false =>
      show t2 { D with nx := tz D } σ u.h
      exact h2 rfl σ u (q.mono l)
/-- an if without else -/
theorem go_when {b : Bool} {t1 : TS} (h : ET tt Γ b) (h1 : b = true → Go t1 { D with nx := tz D } Γ w0) (h2 : b = false → Go tz D Γ w0) : Go (tSeq (tIfS tt t1 tNext) tz) D Γ w0 := go_ite h h1 h2
/-- the end of a block goes on -/
theorem go_next (k : Go tz D Γ w0) : Go tNext { D with nx := tz D } Γ w0 := k
/-- less is known -/
inductive SubL : List (Option Imm) → List (Option Imm) → Prop
  | nil : SubL [] []
  | keep {a as bs} : SubL as bs → SubL (a :: as) (a :: bs)
  | drop {a as bs} : SubL as bs → SubL (a :: as) (none :: bs)
theorem SubL.len : ∀ {as bs : List (Option Imm)}, SubL as bs → as.length = bs.length
  | _, _, .nil => rfl
  | _, _, .keep h => congrArg Nat.succ h.len
  | _, _, .drop h => congrArg Nat.succ h.len
theorem SubL.at : ∀ {as bs : List (Option Imm)} {i : Nat} {m : Imm}, SubL as bs → bs[i]? = some (some m) → as[i]? = some (some m)
  | _, _, _, _, .nil, e => by simp at e
  | _, _, 0, _, .keep _, e => e
  | _, _, i + 1, _, .keep h, e => SubL.at (i := i) h e
  | _, _, 0, _, .drop _, e => by cases (Option.some.inj (show some none = some (some _) from e))
  | _, _, i + 1, _, .drop h, e => SubL.at (i := i) h e
theorem SubL.refl : ∀ as : List (Option Imm), SubL as as
  | [] => .nil
  | _ :: as => .keep (SubL.refl as)
theorem sats_sub {σ : L2.St} {w : Wd} (q : SatS Γ w0 σ w) (h : SubL Γ.s Γ'.s) (ho : Γ'.o = Γ.o) : SatS Γ' w0 σ w :=
  ⟨⟨by rw [q.sat.len, h.len], fun i m e => q.sat.im i m (h.at e), fun i C e => q.sat.ow i C (ho ▸ e)⟩, q.le, q.kb, fun i C p e => q.new i C p (ho ▸ e)⟩
theorem go_less {tt : TS} (h : SubL Γ.s Γ'.s) (ho : Γ'.o = Γ.o) (k : Go tt D Γ' w0) : Go tt D Γ w0 := fun σ w q => k σ w (sats_sub q h ho)
/-- a turn's end -/
theorem go_turn {P : Prop} {bk ct : L2.St → Hp → Prop} {rt : VK} (p : P) (h : SubL Γ.s Γ'.s) (ho : Γ'.o = Γ.o) : Go tNext { nx := nxt P Γ' w0, rt := rt, bk := bk, ct := ct } Γ w0 := fun σ w q => ⟨p, w, rfl, sats_sub q h ho⟩
/-- a for; B: a base in which what is walked stands -/
theorem go_for {as : List α} (Γs : Nat → Ctx) (P : Nat → Prop) (Γb : Nat → α → Ctx) {js : List Nat} (hi : EI wi (Γs 0) R as) (hP : P 0) (hg : ∀ i a, as[i]? = some a → EG g js (Γs i) R a (Γb i a)) (hk : ∀ i a, Keep (Γs i) (Γb i a) js)
    (hs : ∀ B i a, as[i]? = some a → P i → Go tu { nx := nxt (P (i + 1)) (Γs (i + 1)) ⟨w0.w, B⟩, rt := D.rt, bk := tz D, ct := nxt (P (i + 1)) (Γs (i + 1)) ⟨w0.w, B⟩ } (Γb i a) ⟨w0.w, B⟩) (hd : P as.length → Go tz D (Γs as.length) w0) : Go (tSeq (tFor wi g tu) tz) D (Γs 0) w0 := fun σ w q =>
  hi σ w q.sat _ fun J u l iw => by
    refine ⟨fun i m σ H => m = as.length - i ∧ i ≤ as.length ∧ P i ∧ ∃ w1 : Wd, w1.h = H ∧ SatS (Γs i) ⟨w0.w, u.b⟩ σ w1, ⟨as.length, by simp, Nat.zero_le _, hP, u, rfl, (q.mono l).sat, (q.mono l).le, Ex.refl _, (q.mono l).new⟩, ?_⟩
    rintro i m σ H ⟨rfl, hle, p, w1, rfl, q1⟩
    obtain ⟨i1, i2, i3⟩ := iw w1 q1.kb
    by_cases hlt : i < as.length
    · refine .inr ⟨i1 i hlt, nxt (P (i + 1)) (Γs (i + 1)) ⟨w0.w, u.b⟩, fun σ' H' h => ⟨as.length - (i + 1), by omega, rfl, hlt, h⟩, fun x H' hy => ?_⟩
      obtain ⟨u1, a, rfl, l1, ha, ra⟩ := i3 i x H' hlt hy
      refine hg i a ha σ u1 x (q1.sat.mono l1) ra _ fun σ2 u2 l2 q2 e2 s2 => ?_
      exact hs u.b i a ha p σ2 u2 (sats_tgt q1 (l1.trans l2) q2 (hk i a) s2)
    · have e : i = as.length := by omega
      subst e
      exact .inl ⟨i2, hd p σ w1 ⟨q1.sat, q1.le, (q.kb.trans l.b).trans q1.kb, q1.new⟩⟩

/-! ### a list of one's own, made and grown -/
theorem sat_own {i : Nat} {C : Own} {σ : L2.St} {w : Wd} {p : Addr} {o : HO} (q : Sat Γ σ w) (hi : i < Γ.s.length) (hp : w.h p = none) (hc : C.c o w.b) : Sat (Γ.own i C) (σ.set i (some (.ref p))) (w.own p o (w.free hp)) := by
  have l : Le w (w.own p o (w.free hp)) := Le.own hp
  refine ⟨by simp [Ctx.own, q.len], fun j m e => ?_, fun j C' e => ?_⟩
  · have e' : (Γ.s.set i none)[j]? = some (some m) := e
    by_cases hj : i = j
    · subst hj
      rw [List.getElem?_set_self hi] at e'
      cases e'
    · rw [List.getElem?_set_ne hj] at e'
      obtain ⟨v, h1, h2⟩ := q.im j m e'
      exact ⟨v, by rw [List.getElem?_set_ne hj]; exact h1, h2⟩
  · have e' : some (i, C) = some (j, C') := e
    cases e'
    exact ⟨p, o, by rw [List.getElem?_set_self (by rw [q.len]; exact hi)], upd_same, w.free hp, hc⟩
theorem go_ownL {i : Nat} (R : Rel α) (hi : i < Γ.s.length) (k : Go tz D (Γ.own i (ownL R [])) w0) : Go (tSeq (tAsg (tLst tNil) (gName i)) tz) D Γ w0 := fun σ w q =>
  ⟨Nat.zero_le _, fun p hp => k (σ.set i (some (.ref p))) (w.own p (.lst []) (w.free hp)) ⟨sat_own q.sat hi hp ⟨[], rfl, .nil⟩, q.le.trans (Le.own hp), q.kb, fun j C p' e e2 => by
    have e' : some (i, _) = some (j, C) := e
    cases e'
    rw [List.getElem?_set_self (by rw [q.sat.len]; exact hi)] at e2
    cases e2
    cases z : w0.w.h p with
    | none => rfl
    | some o =>
      rw [q.le.h _ _ z] at hp
      cases hp⟩⟩
/-- the owned object changes -/
theorem sats_mut {i : Nat} {C C' : Own} {σ : L2.St} {w : Wd} {p : Addr} {o : HO} (q : SatS Γ w0 σ w) (ho : Γ.o = some (i, C)) (hp : σ[i]? = some (some (.ref p))) (hb : w.b p = none) (hc : C'.c o w.b) : SatS ⟨Γ.s, some (i, C')⟩ w0 σ (w.own p o hb) :=
  ⟨⟨q.sat.len, q.sat.im, fun j C2 e => by
    have e' : some (i, C') = some (j, C2) := e
    cases e'
    exact ⟨p, o, hp, upd_same, hb, hc⟩⟩, Le.mut q.le (q.new i C p ho hp) hb, q.kb, fun j C2 p' e e2 => by
    have e' : some (i, C') = some (j, C2) := e
    cases e'
    exact q.new _ C p' ho e2⟩
theorem go_append {i : Nat} {as : List α} {a : α} (ho : Γ.o = some (i, ownL R as)) (h : EE te Γ R a) (hl : as.length < 90000) (k : Go tz D ⟨Γ.s, some (i, ownL R (as ++ [a]))⟩ w0) :
    Go (tSeq (tDrop (tBM K "list" rAppend (tVar i) (tCons te tNil))) tz) D Γ w0 := fun σ w q => by
  obtain ⟨p, o, h1, h2, h3, xs, rfl, px⟩ := q.sat.ow i _ ho
  refine ⟨.ref p, h1, .inl ⟨rfl, _, .inl (.inl h2)⟩, h σ w q.sat _ fun v u l r => ?_⟩
  have h2' := l.h _ _ h2
  refine ⟨p, xs, v, rfl, rfl, h2', sz_lt (by rw [← px.len]; omega), ?_⟩
  exact k σ _ (sats_mut (o := .lst (xs ++ [v])) (q.mono l) ho h1 (l.n p (.lst xs) trivial h2 h3) ⟨xs ++ [v], rfl, (px.mono fun _ _ z => R.mono l.b z).snoc r⟩)
theorem go_extend {i : Nat} {as bs : List α} (ho : Γ.o = some (i, ownL R as)) (h : EE te Γ (rL R) bs) (hl : as.length + bs.length < 90000) (k : Go tz D ⟨Γ.s, some (i, ownL R (as ++ bs))⟩ w0) :
    Go (tSeq (tDrop (tBM K "list" rExtend (tVar i) (tCons te tNil))) tz) D Γ w0 := fun σ w q => by
  obtain ⟨p, o, h1, h2, h3, xs, rfl, px⟩ := q.sat.ow i _ ho
  refine ⟨.ref p, h1, .inl ⟨rfl, _, .inl (.inl h2)⟩, h σ w q.sat _ fun v u l r => ?_⟩
  obtain ⟨b, ys, rfl, hb, py⟩ := r
  have h2' := l.h _ _ h2
  refine ⟨p, b, xs, ys, rfl, rfl, h2', u.ex _ _ hb, Nat.le_of_lt (sz_lt (by rw [← px.len, ← py.len]; omega)), ?_⟩
  exact k σ _ (sats_mut (o := .lst (xs ++ ys)) (q.mono l) ho h1 (l.n p (.lst xs) trivial h2 h3) ⟨xs ++ ys, rfl, (px.mono fun _ _ z => R.mono l.b z).app py⟩)
/-- the owned object is settled -/
theorem go_fixG {i : Nat} {C : Own} {tt : TS} {a : α} (ho : Γ.o = some (i, C)) (hi : i < Γ.s.length) (hr : ∀ p o H, C.c o H → H p = some o → ∀ H', Ex H' H → C.c o H' → R.r a (.ref p) H) (k : Go tt D (Γ.fix i R a) w0) : Go tt D Γ w0 := fun σ w q => by
  obtain ⟨p, o, h1, h2, h3, hc⟩ := q.sat.ow i _ ho
  have ex : Ex w.b (upd w.b p o) := Ex.new h3
  refine k σ (w.fix p o h2) ⟨⟨by simp [Ctx.fix, q.sat.len], fun j m e => ?_, fun j C' e => nomatch e⟩, Le.fix q.le (q.new i C p ho h1) h3, q.kb.trans ex, fun j C' p' e => nomatch e⟩
  have e' : (Γ.s.set i (some ⟨R, a⟩))[j]? = some (some m) := e
  by_cases hj : i = j
  · subst hj
    rw [List.getElem?_set_self hi] at e'
    cases e'
    exact ⟨.ref p, h1, hr p o _ (C.mono ex hc) upd_same w.b ex hc⟩
  · rw [List.getElem?_set_ne hj] at e'
    obtain ⟨v, g1, g2⟩ := q.sat.im j m e'
    exact ⟨v, g1, m.R.mono ex g2⟩
theorem go_fixL {i : Nat} {as : List α} {tt : TS} (ho : Γ.o = some (i, ownL R as)) (hi : i < Γ.s.length) (k : Go tt D (Γ.fix i (rL R) as) w0) : Go tt D Γ w0 :=
  go_fixG (R := rL R) (a := as) ho hi (fun p o H hc hp _ _ _ => by
    obtain ⟨xs, e, px⟩ := hc
    exact ⟨p, xs, rfl, e ▸ hp, px⟩) k

/-! ### defs -/
/-- what a def promises: args as told by ar, of which pre holds; the answer f a, as R says -/
def spec {A ρ : Type} (ar : A → List Imm) (pre : A → Prop) (R : Rel ρ) (f : A → ρ) : Sp := fun vs H Q _ => ∃ (w : Wd) (a : A), w.h = H ∧ P2 (fun (m : Imm) v => m.R.r m.a v w.b) (ar a) vs ∧ pre a ∧ ∀ v u, Le w u → R.r (f a) v u.b → Q v u.h
theorem ee_call {A ρ : Type} {ar : A → List Imm} {pre : A → Prop} {R : Rel ρ} {f : A → ρ} {E : XK} (a : A) (h : EA tr Γ (ar a)) (hp : pre a) : EE (tCall (spec ar pre R f) [] E tr) Γ R (f a) := fun σ w q Q k =>
  h σ w q _ fun vs u l r => ⟨u, a, rfl, by rw [List.append_nil]; exact r, hp, fun v x l2 r2 => k v x (l.trans l2) r2⟩
end
section
variable {P : Program} {w : World} {K : PySem.W.Frag} {mg : Str → Option Value} {base : Heap}
theorem sat_start {ms : List Imm} {N : List Str} {vs : List V} {w : Wd} (h : P2 (fun (m : Imm) v => m.R.r m.a v w.b) ms vs) : SatS ⟨ms.map some ++ List.replicate (N.length - ms.length) none, none⟩ ⟨w, w.b⟩ (L2.start N vs) w := by
  have hl := h.len
  refine ⟨⟨by simp [L2.start, hl], fun i m e => ?_, fun i C e => nomatch e⟩, Le.refl w, Ex.refl _, fun i C p e => nomatch e⟩
  have e' : (ms.map some ++ List.replicate (N.length - ms.length) none)[i]? = some (some m) := e
  by_cases hi : i < ms.length
  · rw [List.getElem?_append_left (by simpa using hi), List.getElem?_map] at e'
    cases hm : ms[i]? with
    | none => rw [hm] at e'; cases e'
    | some m' =>
      rw [hm] at e'
      cases e'
      obtain ⟨v, hv, r⟩ := h.at hm
      refine ⟨v, ?_, r⟩
      unfold L2.start
      rw [List.getElem?_append_left (by rw [List.length_map, ← hl]; exact hi), List.getElem?_map, hv]
      rfl
  · rw [List.getElem?_append_right (by simpa using hi), List.getElem?_replicate] at e'
    split at e' <;> cases e'
/-- a def keeps its promise, by its body -/
theorem fn_spec {A ρ : Type} {ar : A → List Imm} {pre : A → Prop} {R : Rel ρ} {g : A → ρ} {x qual : Str} {st : Stmt} {f : Addr} {fd : FuncData} {N ps : List Str} {k : Nat} (F : Fun K x qual st f fd) (S : FnScope N ps (defScope st)) (hn : ∀ a, (ar a).length = ps.length)
    (hb : ∀ (cdv : Value) (A' : Around) (outer : List Env) (s : Shared) (H : Hp) (E : XK), Room k (A'.deeper (envOfC qual (defScope st) s.heap.objs.size f cdv)) →
      ∃ t, PSs (cxOf CX0 P w K mg base N qual (defScope st) f cdv A' outer s H E).nox (defBody st) t ∧ ∀ (a : A) (w0 : Ent) (Q : VK), pre a → Ret R (g a) w0 { nx := fun _ H' => Q .non H', rt := Q } →
        Go t { nx := fun _ H' => Q .non H', rt := Q } ⟨(ar a).map some ++ List.replicate (N.length - (ar a).length) none, none⟩ w0) : FnOk P w K mg base CX0 (k + 1) f fd ps (spec ar pre R g) := by
  refine F.ok S (fun vs H Q E h => ?_) (fun cdv A' outer s H vs Q E hr h => ?_)
  · obtain ⟨w, a, _, h1, _⟩ := h
    rw [← h1.len, hn]
  · obtain ⟨w1, a, rfl, h1, hp, q⟩ := h
    obtain ⟨t, ht, hg⟩ := hb cdv A' outer s w1.h E hr
    exact ⟨t, ht, hg a ⟨w1, w1.b⟩ Q hp q _ w1 (sat_start h1)⟩
end
end EM

set_option Elab.async false
set_option linter.all false
set_option maxRecDepth 100000
set_option maxHeartbeats 2000000
/-! EmSort: sorted of a list of tuples of whole numbers, of any lengths, empty ones too. -/
namespace EM
open PySem PySem.Calls PySem.W PySem.SeqAt PyProof.Rows
/-- a row of numbers as data -/
def encT (b : List Int) : PyData := .tuple (b.map PyData.int)
theorem encT_alike (a b : List Int) : alike (encT a) (encT b) = true := by
  show alike (.tuple _) (.tuple _) = true
  rw [alike]
  exact alike_ints a b
theorem encT_depth (b : List Int) : (encT b).depth = 1 := by
  show (PyData.tuple _).depth = 1
  rw [PyData.depth, depth_ints]
section
variable {prog : Program} {w : World} {A : Around} {E : Value → Shared → Prop} {s : Shared} {Q : Bool → Shared → Prop}
/-- the slot's own call -/
theorem tup_slot_lt {Q : Value → Shared → Prop} {l b : Addr} {xs ys : Array Value} {e r : Nat → Bool} (hl : s.heap.IsTuple l xs) (hb : s.heap.IsTuple b ys) (he : ∀ j (h1 : j < xs.size) (h2 : j < ys.size), EqAt A.in1 s xs[j] ys[j] (e j))
    (hr : ∀ j (h1 : j < xs.size) (h2 : j < ys.size), e j = false → RcLt A.in1 s xs[j] ys[j] (r j)) (h : Q (.bool (firstLt e r (decide (xs.size < ys.size)) (List.range (min xs.size ys.size)))) s) : wpAny (model prog w) A (call (.builtin "tuple.__lt__") [.ref l, .ref b]) Q E s := by
  obtain ⟨⟨c1, d1, t1, z1⟩, g1, k1, n1, m1⟩ := id hl
  obtain ⟨⟨c2, d2, t2, z2⟩, g2, k2, n2, m2⟩ := id hb
  simp only at k1 m1 k2 m2
  subst k1 m1 k2 m2
  exact call_meets F.slot_tuple_lt ⟨_, g1, rfl⟩ F.entry_tuple_lt (F.args_tuple_lt_2 _ _) (tuple_ltAt l b xs ys n1 n2 d1 d2 z1 z2 e r) ⟨g1, g2, he, hr, h⟩
/-- two tuples, by their own class's slot -/
theorem one_lt_tup {a b : List Int} {x y : Value} {as bs : List Addr} (ra : Reads s.heap x (encT a) as) (rb : Reads s.heap y (encT b) bs) (hu : A.units + 1 < cLine) (hq : Q (dataLt (encT a) (encT b)) s) : wpAny (model prog w) A (oneLt' true x y) Q E s := by
  have hal : alikeAll (a.map PyData.int) (b.map PyData.int) = true := alike_ints a b
  have hd : A.units + 1 + min (PyData.depthAll (a.map PyData.int)) (PyData.depthAll (b.map PyData.int)) < cLine := by
    rw [depth_ints, depth_ints]
    exact hu
  have ra' : Reads s.heap x (.tuple (a.map PyData.int)) as := ra
  have rb' : Reads s.heap y (.tuple (b.map PyData.int)) bs := rb
  cases ra' with
  | @tuple l o vs n _ _ h1 h2 h3 h4 =>
    cases rb' with
    | @tuple l' o' vs' n' _ _ k1 k2 k3 k4 =>
      have e1 : vs.size = (a.map PyData.int).length := by simpa using SeqAt.ReadsAll.length _ _ _ h4
      have e2 : vs'.size = (b.map PyData.int).length := by simpa using SeqAt.ReadsAll.length _ _ _ k4
      have hq' : Q (dataLt (.tuple (a.map PyData.int)) (.tuple (b.map PyData.int))) s := hq
      rw [dataLt_tuple, ← firstLt_toks _ _ hal, ← e1, ← e2] at hq'
      rw [oneLt'_eq]
      simp only [if_true]
      refine wpAny_bind (wpAny_cRoomFor (by omega) ?_)
      refine wpAny_bind (wpAny_callSpecialIfBound?_slot (T := "tuple") ⟨_, h1, h2⟩ F.slot_tuple_lt ?_)
      refine tup_slot_lt (e := pairEq (a.map PyData.int) (b.map PyData.int)) (r := fun j => dataLt ((a.map PyData.int).getD j .none) ((b.map PyData.int).getD j .none)) ⟨_, h1, h2, _, h3⟩ ⟨_, k1, k2, _, k3⟩ (fun j j1 j2 => ?_) (fun j j1 j2 hj => ?_) (wpAny_truthy_bool hq')
      · have z := eqAt_alikeAll _ _ A.in1 s vs.toList vs'.toList _ _ h4 k4 hal hd j (by simpa using j1) (by simpa using j2)
        rw [Array.getElem_toList, Array.getElem_toList] at z
        exact z
      · have z := rcLt_alikeAll _ _ A.in1 s vs.toList vs'.toList _ _ h4 k4 hal hd j (by simpa using j1) (by simpa using j2) hj
        rw [Array.getElem_toList, Array.getElem_toList] at z
        exact z
end
section
variable {M : Model} {A : Around} {E : Value → Shared → Prop} {s : Shared}
/-- a tuple of numbers lies at v -/
def RdT (h : Heap) (v : Value) (b : List Int) : Prop := ∃ as, Reads h v (encT b) as
theorem firsts_tup : ∀ (vs : List Value) (bs : List (List Int)) {Q : List (Option Value) → Shared → Prop}, EachIs (RdT s.heap) vs bs → (∀ fs : List (Option Value), fs.map (·.isSome) = bs.map (fun b => !b.isEmpty) → Q fs s) → wpAny M A (vs.mapM firstOfTuple') Q E s
  | [], [], Q, _, h => by
    rw [List.mapM_nil]
    exact wpAny_pure (h [] rfl)
  | [], _ :: _, _, e, _ => nomatch e
  | _ :: _, [], _, e, _ => nomatch e
  | v :: vs, b :: bs, Q, .cons ⟨as, r⟩ t, h => by
    have r' : Reads s.heap v (.tuple (b.map PyData.int)) as := r
    cases r' with
    | @tuple a o xs n _ _ ho hc hd hr =>
      rw [List.mapM_cons]
      refine wpAny_bind ?_
      rw [kas_first_eq]
      refine wpAny_bind (Looks.here (show Looks M s.heap (typeOf (.ref a)) o.cls from (Looks.ld ho).andThen .now) ?_)
      rw [hc, if_neg (by first | decide | simp)]
      refine wpAny_bind (listItems_at ho hd (wpAny_pure ?_))
      refine wpAny_bind (firsts_tup vs bs t fun fs hf => wpAny_pure (h _ ?_))
      rw [List.map_cons, List.map_cons, hf]
      congr 1
      have e1 : xs.toList.length = (b.map PyData.int).length := SeqAt.ReadsAll.length _ _ _ hr
      rw [List.length_map, Array.length_toList] at e1
      cases b with
      | nil =>
        have z : xs.size = 0 := e1
        rw [Array.getElem?_eq_none (by omega)]
        rfl
      | cons i b =>
        have : 0 < xs.size := by rw [e1]; simp
        simp [this]
theorem types_tup : ∀ (vs : List Value) (bs : List (List Int)) {Q : List Value → Shared → Prop}, EachIs (RdT s.heap) vs bs → Q (bs.map fun _ => Value.type "tuple") s → wpAny M A (vs.mapM typeOf) Q E s
  | [], [], Q, _, h => by
    rw [List.mapM_nil]
    exact wpAny_pure h
  | [], _ :: _, _, e, _ => nomatch e
  | _ :: _, [], _, e, _ => nomatch e
  | v :: vs, b :: bs, Q, .cons ⟨as, r⟩ t, h => by
    rw [List.mapM_cons]
    refine wpAny_bind (Looks.here (show Looks M s.heap (typeOf v) (.type "tuple") from looks_reads r) ?_)
    exact wpAny_bind (types_tup vs bs (Q := fun ts s' => wpAny M A (pure (Value.type "tuple" :: ts)) Q E s') t (wpAny_pure h))
/-- how such keys are compared where one is empty -/
theorem kind_tup {vs : List Value} {bs : List (List Int)} {Q : SortKind → Shared → Prop} (e : EachIs (RdT s.heap) vs bs) (h2 : 2 ≤ vs.length) (hn : ∃ b ∈ bs, b = []) (hq1 : (∃ x r bs', bs = (x :: r) :: bs') → Q general' s) (hq2 : (∃ bs', bs = [] :: bs') → Q oneType' s) :
    wpAny M A (keyKind' vs.toArray) Q E s := by
  rw [kat_kind_eq, List.mapM_toArray, map_eq_pure_bind]
  refine wpAny_bind (wpAny_bind (firsts_tup vs bs e fun fs hf => wpAny_pure ?_))
  have hall : ¬ (fs.toArray.all fun x => x.isSome) = true := by
    intro z
    obtain ⟨b, hb, rfl⟩ := hn
    have z1 : (fs.map (·.isSome)).all id = true := by
      rw [List.all_map]
      simpa using z
    rw [hf, List.all_map, List.all_eq_true] at z1
    have := z1 _ hb
    simp at this
  rw [if_neg hall]
  cases bs with
  | nil =>
    cases e
    simp at h2
  | cons b bs =>
    cases fs with
    | nil => simp at hf
    | cons f fs =>
      have hf0 : f.isSome = !b.isEmpty := by
        have := congrArg List.head? hf
        simpa using this
      cases b with
      | cons x r =>
        have hs : f.isSome = true := by rw [hf0]; rfl
        have : ((f :: fs).toArray[0]?.bind id).isSome = true := by simpa using hs
        rw [if_pos this]
        exact wpAny_pure (hq1 ⟨x, r, bs, rfl⟩)
      | nil =>
        have hs : f.isSome = false := by rw [hf0]; rfl
        have : ¬ ((f :: fs).toArray[0]?.bind id).isSome = true := by
          intro z
          have z' : f.isSome = true := by simpa using z
          rw [hs] at z'
          cases z'
        rw [if_neg this, oneTypeOnly'_eq, List.mapM_toArray, map_eq_pure_bind]
        refine wpAny_bind (wpAny_bind (wpAny_bind (types_tup vs ([] :: bs) e (wpAny_pure ?_))))
        have hall2 : ((List.map (fun _ => Value.type "tuple") ([] :: bs)).toArray.all fun x => x == Value.type "tuple") = true := by
          simp only [List.all_toArray, List.all_map, List.all_eq_true]
          intro _ _
          simp
        have h0 : (List.map (fun (_ : List Int) => Value.type "tuple") ([] :: bs)).toArray[0]? = some (Value.type "tuple") := by simp
        rw [h0]
        simp only [hall2, if_true]
        exact wpAny_pure (wpAny_pure (hq2 ⟨bs, rfl⟩))
end
section
variable {prog : Program} {w : World} {A : Around} {s : Shared}
theorem each_enc {vs : List Value} {bs : List (List Int)} (e : EachIs (RdT s.heap) vs bs) : EachIs (fun v d => ∃ as, Reads s.heap v d as) vs (bs.map encT) := each_map (R := fun v d => ∃ as, Reads s.heap v d as) encT e
theorem allAlike_enc (bs : List (List Int)) : AllAlike (bs.map encT) := AllAlike.of encT_alike
/-- tuples of numbers can be sorted -/
theorem sortsAt_tup {vs : List Value} {bs : List (List Int)} (e : EachIs (RdT s.heap) vs bs) (hu : A.units + 2 < cLine) : SortsAt prog w A s (dataKind s.heap (bs.map encT)) vs := by
  have hal := allAlike_enc bs
  have hu1 : ∀ d, d ∈ bs.map encT → A.units + d.depth < cLine := by
    intro d hd
    obtain ⟨b, _, rfl⟩ := List.mem_map.mp hd
    rw [encT_depth]
    omega
  by_cases hn : ∃ b ∈ bs, b = []
  · refine ⟨fun v hv => ?_, ?_⟩
    · obtain ⟨d, hd, as, r⟩ := (each_enc e).left v hv
      exact ⟨_, dataKind_some hal hd r⟩
    · have lt_of : ∀ (E : Value → Shared → Prop) (x y : Value) (a b : List (Int ⊕ List Nat)) (f : Bool) {Q : Bool → Shared → Prop}, (dataKind s.heap (bs.map encT)).keyOf x = some a → (dataKind s.heap (bs.map encT)).keyOf y = some b →
          Q ((dataKind s.heap (bs.map encT)).blt a b) s → wpAny (model prog w) A (oneLt' f x y) Q E s := by
        intro E x y a b f Q ha hb hq
        obtain ⟨d, as, hd, ra, rfl⟩ := dataKind_inv ha
        obtain ⟨d', as', hd', rb, rfl⟩ := dataKind_inv hb
        obtain ⟨p, _, rfl⟩ := List.mem_map.mp hd
        obtain ⟨p', _, rfl⟩ := List.mem_map.mp hd'
        cases f with
        | true => exact one_lt_tup ra rb (by omega) hq
        | false => exact oneLt_alike (fun z => nomatch z) ra rb (encT_alike _ _) (fun z => nomatch z) (by rw [encT_depth, encT_depth]; show A.units + 1 < cLine; omega) hq
      cases bs with
      | nil =>
        obtain ⟨b, hb, _⟩ := hn
        cases hb
      | cons b bs =>
        cases b with
        | nil => exact ⟨oneType', fun E x y a b Q ha hb hq => lt_of E x y a b true ha hb hq, fun h2 E Q hq => kind_tup e h2 hn (fun ⟨_, _, _, z⟩ => nomatch z) fun _ => hq⟩
        | cons i b => exact ⟨general', fun E x y a b Q ha hb hq => lt_of E x y a b false ha hb hq, fun h2 E Q hq => kind_tup e h2 hn (fun _ => hq) fun ⟨_, z⟩ => nomatch z⟩
  · refine SortsAt.data (each_enc e) hal (.inl fun d hd => ?_) hu1
    obtain ⟨b, hb, rfl⟩ := List.mem_map.mp hd
    cases b with
    | nil => exact absurd ⟨[], hb, rfl⟩ hn
    | cons i b => exact ⟨.int i, b.map PyData.int, rfl⟩
/-- rows in their order -/
def lsort (bs : List (List Int)) : List (List Int) := bs.mergeSort fun p q => decide (p ≤ q)
theorem le_enc : dataLe false encT = fun p q => decide (p ≤ q) := by
  have e := dataLe_rows (fun b : List Int => b)
  rw [← e]
  rfl
theorem sorted_tup {E : Value → Shared → Prop} {l : Addr} {vs : List Value} {bs : List (List Int)} {R : Value → List Int → Prop} {Q : Value → Shared → Prop} (hl : s.heap.IsList l vs.toArray) (e : EachIs R vs bs) (er : EachIs (RdT s.heap) vs bs) (hL : bs.length ≤ sizeLine) (hu : A.units + 4 < cLine)
    (h : ∀ out, out.length = bs.length → EachIs R out (lsort bs) → Q (.ref (s.heap.objs.size + 1)) { s with heap := sortedAll s.heap vs (List.toArray out) }) : wpAny (model prog w) A (call (.builtin "sorted") [.ref l]) Q E s := by
  have er' : EachIs (RdT (sortingHeap (copyHeap s.heap vs) (s.heap.objs.size + 1) vs)) vs bs := er.mono fun _ _ q => by
    obtain ⟨as, r⟩ := q
    exact ⟨as, PyProof.Rows.Reads.keeps (fun _ _ => sorting_copy_old) r⟩
  refine sorted_vals hl (sortsAt_tup (s := { s with heap := sortingHeap (copyHeap s.heap vs) (s.heap.objs.size + 1) vs }) (A := A.in1.in1) er' (by show A.units + 1 + 1 + 2 < cLine; omega)) (by rw [e.length]; exact hL) ?_
  refine h _ (by rw [sortVals_length false rfl]; exact e.length) ?_
  have q := sortVals_data (enc := encT) false e (er'.mono fun _ _ z => z) (allAlike_enc bs)
  rw [le_enc] at q
  exact q
end
end EM

set_option Elab.async false
set_option linter.all false
set_option maxRecDepth 100000
set_option maxHeartbeats 2000000
/-! EmSet: sorted(set) and sorted(list) of tuples of whole numbers, over the layer; zip of a list and a tuple. -/
namespace EM
open PySem PySem.W PySem.SeqAt PyProof.Rows L2
theorem vals_of_sorted {κ : PyProof.Rows.KeyKind} (vs : List Value) : (sortVals κ false vs vs).Perm vs := by
  unfold sortVals
  have e : (vs.zip vs).map Prod.snd = vs := List.map_snd_zip (Nat.le_refl _)
  have p := ((List.mergeSort_perm (vs.zip vs) (sortLe κ.toKeyOrd false fun p : Keyed => keyD κ p.1)).map Prod.snd)
  rw [e] at p
  exact p
section
variable {P : Program} {w : World} {A : Around} {E : Value → Shared → Prop} {s : Shared}
/-- what IsT says, as data read -/
theorem rdT_of {h : Heap} {k : List Int} {b : Addr} (x : IsT P w h k b) : RdT h (.ref b) k := by
  obtain ⟨o, items, n, ho, hc, hd, hi⟩ := x
  have h1 : ∀ {k : List Int} {vs : List Value}, IntsAre vs k → ∃ as, ReadsAll h vs (k.map PyData.int) as := by
    intro k vs q
    induction q with
    | nil => exact ⟨_, .nil⟩
    | cons n t _ ih =>
      obtain ⟨as, r⟩ := ih
      exact ⟨_, .cons (Reads.int n t) r⟩
  obtain ⟨as, r⟩ := h1 (ints_of_items hi)
  exact ⟨_, Reads.tuple ho hc hd r⟩
theorem each_map1 {α : Type} {R : Value → List Int → Prop} {f : α → Value} {g : α → List Int} : ∀ (L : List α), (∀ a, a ∈ L → R (f a) (g a)) → EachIs R (L.map f) (L.map g)
  | [], _ => .nil
  | a :: L, h => .cons (h a (.head _)) (each_map1 L fun b hb => h b (.tail _ hb))
theorem addrs_of : ∀ {vs : List Value} {L : List (Addr × List Int)}, (∀ v ∈ vs, ∃ q ∈ L, v = Value.ref q.1) → ∃ L1 : List (Addr × List Int), vs = L1.map (fun q => Value.ref q.1) ∧ ∀ q ∈ L1, q ∈ L
  | [], _, _ => ⟨[], rfl, fun q z => nomatch z⟩
  | v :: vs, L, h => by
    obtain ⟨q, hq, rfl⟩ := h v (.head _)
    obtain ⟨L1, rfl, hs⟩ := addrs_of fun u hu => h u (.tail _ hu)
    exact ⟨q :: L1, rfl, fun r hr => (List.mem_cons.mp hr).elim (fun z => z ▸ hq) (hs r)⟩
/-- sorted(set): its tuples, in some order -/
theorem sorted_setA {a : Addr} {L : List (Addr × List Int)} {es : Array (Int × Value)} {ep : Nat} {t : SetTable} {Q : Value → Shared → Prop} (R : SetTR P w s.heap a L es ep t) (hh : A.handled = none) (hu : A.units + 4 < cLine)
    (hQ : ∀ (s' : Shared) (p : Addr) (out : List Value) (c : Nat) (L' : List (Addr × List Int)), (∀ b o, s.heap.get? b = some o → s'.heap.get? b = some o) → s'.gens = s.gens → s'.os = s.os → s.heap.objs.size ≤ p → s'.heap.get? p = some (seqObj "list" out.toArray c) → out = L'.map (fun q => Value.ref q.1) →
      (∀ q ∈ L', q ∈ L) → (∀ q ∈ L, q.1 ∈ L'.map (·.1)) → L'.length = L.length → Q (.ref p) s') : wpAny (model P w) A (call (.builtin "sorted") [.ref a]) Q E s := by
  obtain ⟨o, ho, hex, hd⟩ := R.ob
  have hsz := R.size
  have hfew := R.few
  refine Calls.call_function_entry kind_sorted plain_sorted entry_sorted (args_sorted1 _) ?_
  unfold Builtin.«sorted»
  refine wpAny_bind (m := checkCount "sorted" 1 1 _) (wpAny_pure ?_)
  refine wpAny_bind (collect_set (A := A.in1) hh ⟨o, ho, hex.1, hd⟩ R.fits (by unfold scanBound; omega) R.tab.ris R.led fun s1 vs k1 hz g1 o1 pm => ?_)
  have hes : es.toList.map (·.2) = L.map fun q => Value.ref q.1 := by
    rw [R.rows]
    unfold L2.rowsOf
    rw [List.map_map]
    rfl
  rw [hes] at pm
  have hvl : vs.length < 64 := by
    rw [pm.length_eq, List.length_map]
    exact hfew
  obtain ⟨L0, e0, s0⟩ := addrs_of (vs := vs) (L := L) fun v hv => by
    obtain ⟨q, hq, e⟩ := List.mem_map.mp (pm.mem_iff.mp hv)
    exact ⟨q, hq, e.symm⟩
  have hz2 : vs.length ≤ sizeLine := by rw [sizeLine_eq]; omega
  refine wpAny_bind (wpAny_newList ?_ hz2)
  have hoL : (s1.heap.push (seqObj "list" vs.toArray 0)).get? s1.heap.objs.size = some (seqObj "list" vs.toArray 0) := Heap.get?_push_size _ rfl
  have kp : ∀ b u, s1.heap.get? b = some u → (sortingHeap (s1.heap.push (seqObj "list" vs.toArray 0)) s1.heap.objs.size vs).get? b = some u := fun b u e =>
    sortingHeap_old (Nat.ne_of_lt (Heap.lt_size e)) (Heap.get?_push_of_some _ e)
  have er : EachIs (RdT (sortingHeap (s1.heap.push (seqObj "list" vs.toArray 0)) s1.heap.objs.size vs)) vs (L0.map (·.2)) := by
    have z := each_map1 (R := RdT (sortingHeap (s1.heap.push (seqObj "list" vs.toArray 0)) s1.heap.objs.size vs)) (f := fun q : Addr × List Int => Value.ref q.1) (g := fun q => q.2) L0 fun q hq => rdT_of (P := P) (w := w) (isT_keep (R.tup q (s0 q hq)) fun b u e => kp b u (k1 b u e))
    rw [← e0] at z
    exact z
  refine wpAny_bind (wpAny_holding (wpAny_call_entry slot_list_sort ⟨_, hoL, rfl⟩ entry_list_sort (list_sort_vals (s := { s1 with heap := s1.heap.push (seqObj "list" vs.toArray 0) }) hoL
    (sortsAt_tup (s := { s1 with heap := sortingHeap (s1.heap.push (seqObj "list" vs.toArray 0)) s1.heap.objs.size vs }) er (by show A.units + 1 + 1 + 2 < cLine; omega)) hz2 ⟨.none, rfl, ?_⟩) (args_list_sort _)))
  have ps := vals_of_sorted (κ := dataKind (sortingHeap (s1.heap.push (seqObj "list" vs.toArray 0)) s1.heap.objs.size vs) ((L0.map (·.2)).map encT)) vs
  generalize sortVals (dataKind (sortingHeap (s1.heap.push (seqObj "list" vs.toArray 0)) s1.heap.objs.size vs) ((L0.map (·.2)).map encT)) false vs vs = out at ps
  obtain ⟨c, hc⟩ := sortedHeap_at (vs := vs) (out := out.toArray) hoL
  obtain ⟨L', e', hs'⟩ := addrs_of (vs := out) (L := L) fun v hv => by
    obtain ⟨q, hq, e⟩ := List.mem_map.mp (pm.mem_iff.mp (ps.mem_iff.mp hv))
    exact ⟨q, hq, e.symm⟩
  refine wpAny_pure ⟨_, rfl, hQ _ s1.heap.objs.size out c L' (fun b u e => ?_) g1 o1 hz hc e' hs' (fun q hq => ?_) ?_⟩
  · have q := k1 b u e
    have hlt := Heap.lt_size q
    show (sortedHeap (s1.heap.push (seqObj "list" vs.toArray 0)) s1.heap.objs.size vs out.toArray).get? b = some u
    rw [sortedHeap_old (Nat.ne_of_lt hlt) (by rw [size_push']; exact Nat.lt_succ_of_lt hlt)]
    exact Heap.get?_push_of_some _ q
  · have hm : Value.ref q.1 ∈ out := (ps.trans pm).mem_iff.mpr (List.mem_map.mpr ⟨q, hq, rfl⟩)
    rw [e'] at hm
    obtain ⟨r, hr, e⟩ := List.mem_map.mp hm
    injection e with e
    exact List.mem_map.mpr ⟨r, hr, e⟩
  · have := (ps.trans pm).length_eq
    rw [e', List.length_map, List.length_map] at this
    exact this
end
section
variable {X : Cx}
/-- sorted(set of tuples) -/
def rSortSet (K : PySem.W.Frag) (P : Program) (w : World) : List V → Hp → VK → Prop := fun vs H Q => ∃ (a : Addr) (L : List (Addr × List Int)), vs = [V.ref a] ∧ H a = some (SetTO P w a L) ∧ (∀ p ∈ L, SqT K H p.1 (p.2.map V.int)) ∧
  ∀ (L' : List (Addr × List Int)) (p : Addr), (∀ q ∈ L', q ∈ L) → (∀ q ∈ L, q.1 ∈ L'.map (·.1)) → L'.length < 64 → H p = none → Q (.ref p) (upd H p (.lst (L'.map fun q => V.ref q.1)))
theorem cr_sortSet (hc : X.calm = true) (hu : X.A.units + 4 < cLine) : CallR X (.builtin "sorted") (rSortSet X.K X.prog X.w) := by
  intro pins s σ H vs us Q I r h
  obtain ⟨a, L, rfl, ha, hk, q⟩ := h
  have R0 : SetT0 X.prog X.w s.heap a L := (I.hok a _ ha).1
  obtain ⟨es, ep, t, R⟩ := R0.full fun p hp => I.isT (hk p hp)
  rw [Vals.ref1 r]
  refine sorted_setA R (I.ok.hd hc) hu fun s' p out c L' k g o hp hg hout m1 m2 hl => ?_
  have hlen : (L'.map fun q => V.ref q.1).length ≤ sizeLine := by
    have hfew := R.few
    rw [List.length_map, sizeLine_eq, hl]
    omega
  have hn : H p = none := I.hok.fresh hp
  have hv : Vals (L'.map fun q => V.ref q.1) out := hout ▸ vals_of_refs L'
  have J : Inv X pins σ (upd H p (.lst (L'.map fun q => V.ref q.1))) { s with heap := s'.heap, gens := s'.gens, drawn := s'.drawn, toks := s'.toks } := by
    refine I.call (ch := []) (Un.laid k hp hn) (I.hok.laid k hp ⟨hlen, out, c, hv, hg⟩) ?_ (fun _ z => nomatch z)
    rw [g]
    exact I.bare
  have e : s' = { s with heap := s'.heap, gens := s'.gens, drawn := s'.drawn, toks := s'.toks } := by
    cases s'
    cases s
    cases o
    rfl
  rw [e]
  exact ⟨.ref p, _, J, rfl, q L' p m1 m2 (by rw [hl]; exact R.few) hn⟩
/-- sorted(list of tuples) -/
def rSortT (K : PySem.W.Frag) : List V → Hp → VK → Prop := fun vs H Q => ∃ (a : Addr) (xs : List V) (bs : List (List Int)) (F : List Int → V → Prop), vs = [V.ref a] ∧ SqL K H a xs ∧ P2 F bs xs ∧ (∀ b x, F b x → ∃ p, x = V.ref p ∧ SqT K H p (b.map V.int)) ∧ bs.length ≤ 100000 ∧
  ∀ ys p, H p = none → P2 F (lsort bs) ys → Q (.ref p) (upd H p (.lst ys))
theorem each_vals {R : V → Value → Prop} {F : List Int → V → Prop} : ∀ {bs : List (List Int)} {xs : List V} {us : List Value}, P2 F bs xs → Vals xs us → EachIs (fun u b => ∃ x, RelV x u ∧ F b x) us bs
  | _, _, _, .nil, .nil => .nil
  | _, _, _, .cons h t, .cons r q => .cons ⟨_, r, h⟩ (each_vals (R := R) t q)
theorem vals_each {F : List Int → V → Prop} : ∀ {us : List Value} {bs : List (List Int)}, EachIs (fun u b => ∃ x, RelV x u ∧ F b x) us bs → ∃ xs, P2 F bs xs ∧ Vals xs us
  | _, _, .nil => ⟨[], .nil, .nil⟩
  | _, _, .cons ⟨x, r, h⟩ t => by
    obtain ⟨xs, h1, h2⟩ := vals_each t
    exact ⟨x :: xs, .cons h h1, .cons r h2⟩
theorem cr_sortT2 (hu : X.A.units + 4 < cLine) : CallR X (.builtin "sorted") (rSortT X.K) := by
  intro pins s σ H vs us Q I r h
  obtain ⟨a, xs, bs, F, rfl, hs, hx, hF, hl, q⟩ := h
  obtain ⟨its, rv, hp, hz⟩ := I.list hs
  rw [Vals.ref1 r]
  have e := each_vals (R := RelV) hx rv
  refine sorted_tup hp.isList e (e.mono fun u b z => ?_) (Nat.le_trans hl (by decide)) (by omega) fun out h1 h2 => ?_
  · obtain ⟨x, rx, fx⟩ := z
    obtain ⟨p, rfl, ht⟩ := hF _ _ fx
    cases rx
    exact rdT_of (I.isT ht)
  · obtain ⟨ys, py, vy⟩ := vals_each h2
    obtain ⟨ep, he⟩ := sortedAll_at s.heap its (List.toArray out)
    have hlen : ys.length ≤ sizeLine := by
      rw [vy.length, h1]
      exact Nat.le_trans hl (by decide)
    exact ⟨.ref _, upd H (s.heap.objs.size + 1) (.lst ys), I.laid (t' := s.toks) (fun _ _ => sortedAll_old) (Nat.le_succ _) ⟨hlen, out, ep, vy, he⟩, rfl, q ys _ (I.hok.fresh (Nat.le_succ _)) py⟩
end
end EM

set_option Elab.async false
set_option linter.all false
set_option maxRecDepth 100000
set_option maxHeartbeats 2000000
/-! EmZip: zip of a list and a tuple, the target written as a pair. -/
namespace EM
open PySem PySem.Spec PyProof.Rows L2 Evl
/-- the list at a and the tuple at b, item by item, in new pairs -/
def ItLT (K : PySem.W.Frag) (a b : Addr) : It where
  go i H := ∃ xs ys x y, SqL K H a xs ∧ SqT K H b ys ∧ xs[i]? = some x ∧ ys[i]? = some y
  yld i H v H' := ∃ T x y, v = .ref T ∧ H T = none ∧ H' = upd H T (.tup [x, y]) ∧ (∀ xs, SqL K H a xs → xs[i]? = some x) ∧ ∀ ys, SqT K H b ys → ys[i]? = some y
  stop i H := ∃ xs ys, SqL K H a xs ∧ SqT K H b ys ∧ (xs.length = i ∧ i ≤ ys.length ∨ ys.length = i ∧ i ≤ xs.length)
structure LTSep (z TI TO i1 i2 a b : Addr) : Prop where
  s : ZipSep2 z TI TO i1 i2 [i1, a] [i2, b]
  a1 : a ≠ i1
  b2 : b ≠ i2
theorem in5 {z TI TO i1 i2 c : Addr} (h : c ∈ [z, TI, TO, i1, i2]) : c = z ∨ c = TI ∨ c = TO ∨ c = i1 ∨ c = i2 := by simpa using h
theorem out5 {z TI TO i1 i2 c : Addr} (h : c ∉ [z, TI, TO, i1, i2]) : c ≠ z ∧ c ≠ TO ∧ c ≠ i1 ∧ c ≠ i2 := ⟨fun e => h (by simp [e]), fun e => h (by simp [e]), fun e => h (by simp [e]), fun e => h (by simp [e])⟩
def LTSt (z TI TO i1 i2 a b : Addr) (i : Nat) (h : Heap) : Prop := IsZip h z TI TO .none ∧ IsTupOf2 h TI (.ref i1) (.ref i2) ∧ (∃ x y, IsTupOf2 h TO x y) ∧ h.IsListIter i1 a i ∧ h.IsTupleIter i2 b i
theorem turn_LT {P : Program} {w : World} {K : PySem.W.Frag} {elts : List Expr} {kk : Nat} {tpos : Pos} {a b z TI TO i1 i2 : Addr} (D : LTSep z TI TO i1 i2 a b) :
    Turn P w K (.Tuple elts kk tpos) (ItLT K a b) [z, TI, TO, i1, i2] z (LTSt z TI TO i1 i2 a b) where
  mem := List.mem_cons_self
  obj := fun i h st c hc => by
    obtain ⟨h0, hI, ⟨x, y, hO⟩, ⟨o1, e1, _, d1⟩, ⟨o2, e2, _, d2⟩⟩ := st
    rcases in5 hc with rfl | rfl | rfl | rfl | rfl
    · exact ⟨_, h0, fun v q => nomatch q⟩
    · exact ⟨_, hI, fun v q => nomatch q⟩
    · exact ⟨_, hO, fun v q => nomatch q⟩
    · exact ⟨o1, e1, fun v q => nomatch d1.symm.trans q⟩
    · exact ⟨o2, e2, fun v q => nomatch d2.symm.trans q⟩
  keep := fun i h h' st k => by
    obtain ⟨h0, hI, ⟨x, y, hO⟩, h1, h2⟩ := st
    exact ⟨k z (by simp) _ h0, k TI (by simp) _ hI, ⟨x, y, k TO (by simp) _ hO⟩, h1.at fun o q => k i1 (by simp) o q, h2.at fun o q => k i2 (by simp) o q⟩
  item := by
    intro X hP hw hK hc i pins s σ H E I hf st hg
    subst hP hw hK
    obtain ⟨h0, hI, ⟨x0, y0, hO⟩, h1, h2⟩ := st
    obtain ⟨xs, ys, x, y, qx, qy, hx, hy⟩ := hg
    obtain ⟨us, rv, p1, _⟩ := I.list qx
    obtain ⟨ws, rw', p2, _⟩ := I.tuple qy
    obtain ⟨u, hu, ru⟩ := rv.get hx
    obtain ⟨u2, hu2, ru2⟩ := rw'.get hy
    have hh : X.A.in1.handled = none := I.ok.hd hc
    have zl : z < s.heap.objs.size := Heap.lt_size h0
    have D1 := Draws.list (prog := X.prog) (w := X.w) hh i1 a D.a1 us.toArray
    have D2 := Draws.tuple (prog := X.prog) (w := X.w) hh i2 b D.b2 ws.toArray
    have il : i < us.toArray.size := by
      rw [List.size_toArray]
      exact (List.getElem?_eq_some_iff.mp hu).1
    have iw : i < ws.toArray.size := by
      rw [List.size_toArray]
      exact (List.getElem?_eq_some_iff.mp hu2).1
    refine wpAny_pyNext_zipD2_item D.s D1 D2 h0 hI hO ⟨h1, p1.isList⟩ ⟨h2, p2⟩ il iw fun v1 v2 h' tk e1 e2 z' hO' st1 st2 hT hsz hk => ?_
    have e1' : v1 = u := by
      have q : us[i]? = some v1 := by simpa using e1
      exact Option.some.inj (q.symm.trans hu)
    have e2' : v2 = u2 := by
      have q : ws[i]? = some v2 := by simpa using e2
      exact Option.some.inj (q.symm.trans hu2)
    subst e1' e2'
    refine ⟨_, rfl, wpAny_letOwnedTupleGo_zip (s := { s with heap := h', toks := tk }) z' fun h'' z'' sb => ?_⟩
    have hT2 : h''.get? s.heap.objs.size = some { cls := .type "tuple", data := .seq #[v1, v2] } := (sb.2 _ (Nat.ne_of_gt zl)).trans hT
    have new : ObjOk X.prog X.w (upd H s.heap.objs.size (.tup [x, y])) h'' s.heap.objs.size (.tup [x, y]) :=
      ⟨by show 2 ≤ sizeLine; decide, [v1, v2], .cons ru (.cons ru2 .nil), ⟨_, hT2, rfl, _, rfl⟩⟩
    have I1 : Inv X pins σ (upd H s.heap.objs.size (.tup [x, y])) { s with heap := h'', toks := tk } := by
      refine I.turnedNew (ch := [z, TI, TO, i1, i2]) (fun c o hb q => ?_) hf (Nat.le_refl _) new
      obtain ⟨g1, g2, g3, g4⟩ := out5 hb
      exact (sb.2 c g1).trans (hk c o g1 g2 g3 g4 q)
    refine ⟨.ref s.heap.objs.size, _, I1, rfl, ⟨_, x, y, rfl, I.hok.fresh (Nat.le_refl _), rfl, fun l hl => ?_, fun l hl => ?_⟩, ⟨z'', ?_, ⟨v1, v2, ?_⟩, ?_, ?_⟩, fun c hcm => ?_⟩
    · rw [I.list_inj hl qx]
      exact hx
    · rw [I.tuple_inj hl qy]
      exact hy
    · exact (sb.2 _ D.s.TIz).trans (hk _ _ D.s.TIz D.s.TITO D.s.TIi1 D.s.TIi2 hI)
    · exact (sb.2 _ D.s.TOz).trans hO'
    · exact st1.1.at fun o q => (sb.2 _ D.s.zi1.symm).trans q
    · exact st2.1.at fun o q => (sb.2 _ D.s.zi2.symm).trans q
    · have hlt : c < s.heap.objs.size := by
        rcases in5 hcm with rfl | rfl | rfl | rfl | rfl
        · exact zl
        · exact Heap.lt_size hI
        · exact Heap.lt_size hO
        · obtain ⟨_, g, _⟩ := h1
          exact Heap.lt_size g
        · obtain ⟨_, g, _⟩ := h2
          exact Heap.lt_size g
      rw [upd_ne (Nat.ne_of_lt hlt)]
      exact (hf c hcm).1
  done := by
    intro X hP hw hK hc i pins s σ H E I hf st hg
    subst hP hw hK
    obtain ⟨h0, hI, ⟨x0, y0, hO⟩, h1, h2⟩ := st
    obtain ⟨xs, ys, qx, qy, hend⟩ := hg
    obtain ⟨us, rv, p1, _⟩ := I.list qx
    obtain ⟨ws, rw', p2, _⟩ := I.tuple qy
    have hh : X.A.in1.handled = none := I.ok.hd hc
    have D1 := Draws.list (prog := X.prog) (w := X.w) hh i1 a D.a1 us.toArray
    have D2 := Draws.tuple (prog := X.prog) (w := X.w) hh i2 b D.b2 ws.toArray
    have l1 := rv.length
    have l2 := rw'.length
    have s1 : us.toArray.size = us.length := List.size_toArray
    have s2 : ws.toArray.size = ws.length := List.size_toArray
    refine wpAny_pyNext_zipD2_end D.s D1 D2 h0 hI hO ⟨h1, p1.isList⟩ ⟨h2, p2⟩ (by omega) (by omega) (by omega) fun h' tk hk => ⟨rfl, ?_⟩
    refine I.turnedL (ch := [z, TI, TO, i1, i2]) (fun c o hb q => ?_) hf
    obtain ⟨g1, g2, g3, g4⟩ := out5 hb
    exact hk c o g1 g2 g3 g4 q
  self := fun A i s Q E st h => wpAny_pyIter_zip st.1 h

def iZipLT (K : PySem.W.Frag) (ta : TA) : TI := fun σ H R => ta σ H fun vs H1 => ∃ a b xs ys, vs = [.ref a, .ref b] ∧ SqL K H1 a xs ∧ SqT K H1 b ys ∧ R (ItLT K a b) H1
theorem pi_zipLT {X : Cx} {e e2 : Expr} {ta : TA} {p pos tpos : Pos} {elts : List Expr} {kk : Nat} (K : PySem.W.Frag) (hg : Gl X "zip") (hm : X.mg "zip" = none) (ha : PA X [e, e2] ta) (hK : X.K = K := by rfl)
    (hs : starEach [e, e2] X.env = (false, eval e X.env) :: starEach [e2] X.env := by rfl) (hpl : (backTo pos (starEach [e2] X.env)).any (·.1) = false := by rfl) : PI X (.Tuple elts kk tpos) (.Call (.Name "zip" p) [e, e2] [] pos) (iZipLT K ta) := by
  subst hK
  refine ⟨fun pins s σ H R I h => ?_⟩
  refine Call_ (ld_blt I hg hm PyProof.Rows.boot_zip (PyProof.Rows.callWith_type1 (thn (ha.run pos pins s σ H _ I h) fun us s1 ⟨vs, H1, I1, r1, q1⟩ => ?_) hs hpl))
  obtain ⟨a, b, xs, ys, ex, qx, qy, q⟩ := q1
  subst ex
  cases r1 with
  | cons r rr =>
    cases rr with
    | cons r' rr =>
      cases rr
      cases r
      cases r'
      obtain ⟨us, rv, p1, _⟩ := I1.list qx
      obtain ⟨ws, rw', p2, _⟩ := I1.tuple qy
      have la : a < s1.heap.objs.size := p1.lt
      have lb : b < s1.heap.objs.size := p2.lt
      refine zip_begins2 (begins_list a us.toArray) (begins_tuple b ws.toArray) p1.isList p2 fun h' hz hI hO g1 g2 hsz hk => wpAny_pyIter_zip hz ?_
      have I2 : Inv X pins σ H1 { s1 with heap := h' } := I1.kept (t' := s1.toks) hk
      have sep : ZipSep2 (s1.heap.objs.size + 4) (s1.heap.objs.size + 2) (s1.heap.objs.size + 3) s1.heap.objs.size (s1.heap.objs.size + 1) [s1.heap.objs.size, a] [s1.heap.objs.size + 1, b] :=
        zip_sep2 (fp1 := [a]) (fp2 := [b]) (fun c hc => by
          have e := List.mem_singleton.mp hc
          rw [e]
          exact la) (fun c hc => by
          have e := List.mem_singleton.mp hc
          rw [e]
          exact lb)
      have fresh5 : ∀ c, c ∈ [s1.heap.objs.size + 4, s1.heap.objs.size + 2, s1.heap.objs.size + 3, s1.heap.objs.size, s1.heap.objs.size + 1] → FpOk X pins H1 c := fun c hcm => by
        have hle : s1.heap.objs.size ≤ c := by
          rcases in5 hcm with e | e | e | e | e <;> rw [e]
          · exact Nat.le_add_right _ _
          · exact Nat.le_add_right _ _
          · exact Nat.le_add_right _ _
          · exact Nat.le_refl _
          · exact Nat.le_add_right _ _
        exact I1.fpOk hle (I1.hok.fresh hle)
      exact ⟨_, _, _, _, H1, rfl, I2, turn_LT ⟨sep, Nat.ne_of_lt la, Nat.ne_of_lt (Nat.lt_succ_of_lt lb)⟩, ⟨hz, hI, ⟨_, _, hO⟩, ⟨_, g1, rfl, rfl⟩, ⟨_, g2, rfl, rfl⟩⟩, fresh5, q⟩

section
variable {α β : Type} {Γ : Ctx} {R : Rel α} {S : Rel β} {K : PySem.W.Frag} {ta tb : TE}
theorem ei_zipLT {as : List α} {bs : List β} (ha : EE ta Γ (rL R) as) (hb : EE tb Γ (rT S) bs) : EI (iZipLT K (tCons ta (tCons tb tNil))) Γ (rP R S) (as.zip bs) := fun σ w q RR k =>
  ha σ w q _ fun x u1 l1 r1 => hb σ u1 (q.mono l1) _ fun y u l r => by
    obtain ⟨p, xs, rfl, hp, px⟩ := (rL R).mono l.b r1
    obtain ⟨p', ys, rfl, hp', py⟩ := r
    refine ⟨p, p', xs, ys, rfl, SqL.of (u.ex _ _ hp), SqT.of (u.ex _ _ hp'), k _ u (l1.trans l) fun w' e => ?_⟩
    have hs : SqL K w'.h p xs := SqL.of (w'.ex _ _ (e _ _ hp))
    have hs' : SqT K w'.h p' ys := SqT.of (w'.ex _ _ (e _ _ hp'))
    have lx := px.len
    have ly := py.len
    rw [List.length_zip]
    refine ⟨fun i hi => ?_, ⟨xs, ys, hs, hs', by omega⟩, fun i x H' hi y => ?_⟩
    · obtain ⟨v, hv, _⟩ := px.at (i := i) (List.getElem?_eq_getElem (by omega))
      obtain ⟨v', hv', _⟩ := py.at (i := i) (List.getElem?_eq_getElem (by omega))
      exact ⟨xs, ys, v, v', hs, hs', hv, hv'⟩
    · obtain ⟨T, x1, y1, rfl, hT, rfl, f1, f2⟩ := y
      obtain ⟨a, ea, ra⟩ := px.atr (f1 xs hs)
      obtain ⟨b, eb, rb⟩ := py.atr (f2 ys hs')
      refine ⟨w'.new T (.tup [x1, y1]), (a, b), rfl, Le.new hT, ?_, T, x1, y1, rfl, Wd.new_at, R.mono (Le.new hT).b (R.mono e ra), S.mono (Le.new hT).b (S.mono e rb)⟩
      rw [List.getElem?_zip_eq_some]
      exact ⟨ea, eb⟩
end
end EM

set_option Elab.async false
set_option linter.all false
set_option maxRecDepth 100000
set_option maxHeartbeats 2000000
/-! EmRul: the layer's rules with the written part K named; equality of data, dicts of rows, sets, isinstance, slices over the typed layer. -/
namespace EM
open PySem PySem.Spec PyProof.Rows L2 Evl
/-! ### rules, K named -/
section
variable {X : Cx} {tg e l o : Expr} {es : List Expr} {te tl to : TE} {t : TA} {tgs : TGs}
theorem k_len (K : PySem.W.Frag) (h : X.K = K := by rfl) : CallR X (.builtin "len") (rLenS K) := h ▸ call_len_seq
theorem k_listof (K : PySem.W.Frag) (h : X.K = K := by rfl) : CallR X (.type "list") (rListS K) := h ▸ call_list_of
theorem k_tupof (K : PySem.W.Frag) (h : X.K = K := by rfl) : CallR X (.type "tuple") (rTupS K) := h ▸ call_tuple_of
theorem k_sortI (K : PySem.W.Frag) (h : X.K = K := by rfl) : CallR X (.builtin "sorted") (rSortedI K) := h ▸ cr_sortedI
theorem k_any (K : PySem.W.Frag) (h : X.K = K := by rfl) (hc : X.calm = true := by rfl) : CallR X (.builtin "any") (rAny K) := h ▸ cr_any hc
theorem k_all (K : PySem.W.Frag) (h : X.K = K := by rfl) (hc : X.calm = true := by rfl) : CallR X (.builtin "all") (rAll K) := h ▸ cr_all hc
theorem k_isi (K : PySem.W.Frag) (h : X.K = K := by rfl) : CallR X (.builtin "isinstance") (rIsi K) := h ▸ call_isi
theorem k_sortT (K : PySem.W.Frag) (hu : X.A.units + 4 < cLine) (h : X.K = K := by rfl) : CallR X (.builtin "sorted") (rSortT K) := h ▸ cr_sortT2 hu
theorem k_sortP (K : PySem.W.Frag) (h : X.K = K := by rfl) : CallR X (.builtin "sorted") (rSortedP K) := h ▸ cr_sortedP
theorem k_setT (K : PySem.W.Frag) (P : Program) (w : World) (hu : X.A.units + 64 < cLine) (h : X.K = K := by rfl) (h1 : X.prog = P := by rfl) (h2 : X.w = w := by rfl) (hc : X.calm = true := by rfl) : CallR X (.type "set") (rSetOfT K P w) := by
  subst h h1 h2
  exact cr_setOfT hc hu
theorem k_sortSet (K : PySem.W.Frag) (P : Program) (w : World) (hu : X.A.units + 4 < cLine) (h : X.K = K := by rfl) (h1 : X.prog = P := by rfl) (h2 : X.w = w := by rfl) (hc : X.calm = true := by rfl) : CallR X (.builtin "sorted") (rSortSet K P w) := by
  subst h h1 h2
  exact cr_sortSet hc hu
def rListDT : List V → Hp → VK → Prop := fun xs H Q => ∃ d kvs, xs = [V.ref d] ∧ Rd H d (.dT kvs) ∧ ∀ p bs, H p = none → IsKeys H kvs bs → Q (.ref p) (upd H p (.lst (bs.map V.ref)))
theorem k_listD (hc : X.calm = true := by rfl) : CallR X (.type "list") rListDT := call_list_dT hc
theorem k_int1 : CallR X (.type "int") rInt1 := call_int1
theorem k_abs : CallR X (.builtin "abs") rAbs := call_abs
theorem k_max2 (hc : X.calm = true := by rfl) : CallR X (.builtin "max") rMax2 := call_max2 hc
theorem k_in (K : PySem.W.Frag) (h : X.K = K := by rfl) : OpR X (compareOp .In) (rIn K false) := h ▸ op_in_seq
theorem k_notin (K : PySem.W.Frag) (h : X.K = K := by rfl) : OpR X (compareOp .NotIn) (rIn K true) := h ▸ op_notIn_seq
theorem k_eqD (K : PySem.W.Frag) (hu : X.A.units + 64 < cLine) (h : X.K = K := by rfl) : OpR X (compareOp .Eq) (rEqD K) := h ▸ op_eqD hu
theorem k_neD (K : PySem.W.Frag) (hu : X.A.units + 64 < cLine) (h : X.K = K := by rfl) : OpR X (compareOp .NotEq) (rNeD K) := h ▸ op_neD hu
theorem k_notN : OpR X (compareOp .IsNot) rNotN := op_notN
theorem k_ixT (K : PySem.W.Frag) (h : X.K = K := by rfl) : IxR X (rIxT K) := h ▸ ix_tup
theorem k_ixL (K : PySem.W.Frag) (h : X.K = K := by rfl) : IxR X (rIxL K) := h ▸ ix_list
theorem k_sl (K : PySem.W.Frag) (h : X.K = K := by rfl) : SlR X (rSlL K) := h ▸ sl_list
theorem k_iT (K : PySem.W.Frag) (hl : PE X l tl) (h : X.K = K := by rfl) : PI X tg l (iTup K tl) := h ▸ pi_tup hl
theorem k_iL (K : PySem.W.Frag) (hl : PE X l tl) (h : X.K = K := by rfl) : PI X tg l (iList K tl) := h ▸ pi_list hl
theorem k_gT (K : PySem.W.Frag) {k : Nat} {pos : Pos} {n : Nat} (hg : PGs X es tgs) (hn : (assignEach es X.env).length = n := by rfl) (hst : (assignEach es X.env).findIdx? (·.1) = none := by rfl) (h : X.K = K := by rfl) (hc : X.calm = true := by rfl) : PG X (.Tuple es k pos) (gTup K n tgs) := by
  subst h
  exact pg_tup hc hg hn hst
variable {name : Str} {apos cpos : Pos} {T id : String} {r : V → List V → Hp → VK → Prop}
theorem k_bm (K : PySem.W.Frag) (pa : PlainAttrs T) (slot : Slot T name id) (hty : typeOf (.builtin id) = pure (.type "method_descriptor")) (hm : MtR X id r) (ho : PE X o to) (ha : PA X (e :: es) t)
    (hbase : attributeBase o name X.env (eval o X.env) = eval o X.env := by rfl)
    (hfew : ((backTo cpos (starEach (e :: es) X.env)).all (fun x => !x.1) && (backToKw cpos (keywordEach [] X.env)).all (fun x => x.1.isSome) && decide ((e :: es).length + ([] : List Keyword).length + (if ([] : List Keyword).isEmpty then 0 else 1) < 30)) = true := by rfl)
    (hline : (apos.endLine == cpos.line) = true := by rfl) (hs : starEach (e :: es) X.env = (false, eval e X.env) :: starEach es X.env := by rfl) (hp : (backTo cpos (starEach es X.env)).any (·.1) = false := by rfl) (h : X.K = K := by rfl) :
    PE X (.Call (.Attribute o name apos) (e :: es) [] cpos) (tBM K T r to t) := by
  subst h
  exact pe_bm pa slot hty hm ho ha hbase hfew hline hs hp
theorem k_get {e f : Expr} {td ty tx : TE} (hu : X.A.units + 1 < cLine) (ho : PE X o td) (he : PE X e ty) (hf : PE X f tx) (b : attributeBase o "get" X.env (eval o X.env) = eval o X.env := by rfl)
    (hfew : ((backTo cpos (starEach [e, f] X.env)).all (fun x => !x.1) && (backToKw cpos (keywordEach [] X.env)).all (fun x => x.1.isSome) && decide (([e, f] : List Expr).length + ([] : List Keyword).length + (if ([] : List Keyword).isEmpty then 0 else 1) < 30)) = true := by rfl)
    (hline : (apos.endLine == cpos.line) = true := by rfl) (ht : backTo cpos (starEach [e, f] X.env) = [(false, eval e X.env), (false, eval f X.env)] := by rfl) : PE X (.Call (.Attribute o "get" apos) [e, f] [] cpos) (tDGet2 td ty tx) :=
  pe_dget2 hu ho he hf ⟨b, hfew, hline, ht⟩
end

section
variable {α β γ : Type} {Γ Γ' : Ctx} {R : Rel α} {S : Rel β} {T : Rel γ} {K : PySem.W.Frag} {te ta tb tc tl : TE} {tt t u : TT} {tr : TA} {ms : List Imm} {w0 : Ent} {D : Ends} {tz tu tw : TS} {P : Program} {w : World}

/-! ### data that are compared -/
mutual
theorem Dp.mono {H H' : Hp} (e : Ex H H') : ∀ {d : PyData} {v : V}, Dp K H v d → Dp K H' v d
  | _, _, .non => .non
  | _, _, .bl b => .bl b
  | _, _, .int i => .int i
  | _, _, .str x => .str x
  | _, _, .lst h t => .lst (ex_l e h) (DpAll.mono e t)
  | _, _, .tup h t => .tup (ex_t e h) (DpAll.mono e t)
theorem DpAll.mono {H H' : Hp} (e : Ex H H') : ∀ {ds : List PyData} {vs : List V}, DpAll K H vs ds → DpAll K H' vs ds
  | _, _, .nil => .nil
  | _, _, .cons h t => .cons (Dp.mono e h) (DpAll.mono e t)
end
def rD (K : PySem.W.Frag) : Rel PyData := ⟨fun d v H => Dp K H v d, fun e h => Dp.mono e h⟩
theorem dpAll_of {b : Hp} {f : α → PyData} (hf : ∀ a v, R.r a v b → Dp K b v (f a)) : ∀ {as : List α} {xs : List V}, P2 (fun a x => R.r a x b) as xs → DpAll K b xs (as.map f)
  | _, _, .nil => .nil
  | _, _, .cons h t => .cons (hf _ _ h) (dpAll_of hf t)
theorem dp_L {b : Hp} {f : α → PyData} (hf : ∀ a v, R.r a v b → Dp K b v (f a)) {as : List α} {v : V} (h : (rL R).r as v b) : Dp K b v (.list (as.map f)) := by
  obtain ⟨p, xs, rfl, hp, hx⟩ := h
  exact .lst (SqL.of hp) (dpAll_of hf hx)
theorem dp_T {b : Hp} {f : α → PyData} (hf : ∀ a v, R.r a v b → Dp K b v (f a)) {as : List α} {v : V} (h : (rT R).r as v b) : Dp K b v (.tuple (as.map f)) := by
  obtain ⟨p, xs, rfl, hp, hx⟩ := h
  exact .tup (SqT.of hp) (dpAll_of hf hx)
theorem dp_int {b : Hp} (i : Int) (v : V) (h : rInt.r i v b) : Dp K b v (.int i) := (show v = .int i from h) ▸ .int i
theorem ee_neDat {d e : PyData} (ha : EE ta Γ (rD K) d) (hb : EE tb Γ (rD K) e) (hd : SeqAt.shaped d = true) (he : SeqAt.shaped e = true) : EE (tOp (rNeD K) ta tb) Γ rBool (!PyData.eqv d e) :=
  ee_op0 ha hb fun x y w Q r1 r2 k => ⟨d, e, Dp.mono w.ex r1, Dp.mono w.ex r2, hd, he, k _ rfl⟩
theorem ee_eqDat {d e : PyData} (ha : EE ta Γ (rD K) d) (hb : EE tb Γ (rD K) e) (hd : SeqAt.shaped d = true) (he : SeqAt.shaped e = true) : EE (tOp (rEqD K) ta tb) Γ rBool (PyData.eqv d e) :=
  ee_op0 ha hb fun x y w Q r1 r2 k => ⟨d, e, Dp.mono w.ex r1, Dp.mono w.ex r2, hd, he, k _ rfl⟩
theorem canLay_ints : ∀ ns : List Int, PyData.canLayAll0 (ns.map PyData.int) = true
  | [] => by simp [PyData.canLayAll0]
  | n :: ns => by
    have ih := canLay_ints ns
    simp [PyData.canLayAll0, PyData.canLay0, ih]
theorem shaped_LI (ns : List Int) : SeqAt.shaped (.list (ns.map PyData.int)) = true := by
  have h := canLay_ints ns
  have e := PySem.W.depth_ints ns
  simp [SeqAt.shaped, PyData.canLay0, PyData.depth, h, e]
theorem canLay_rows : ∀ bs : List (List Int), PyData.canLayAll0 (bs.map encT) = true
  | [] => by simp [PyData.canLayAll0]
  | b :: bs => by
    have ih := canLay_rows bs
    have h := canLay_ints b
    simp [PyData.canLayAll0, encT, PyData.canLay0, ih, h]
theorem depth_rows : ∀ bs : List (List Int), PyData.depthAll (bs.map encT) ≤ 1
  | [] => by simp [PyData.depthAll]
  | b :: bs => by
    have ih := depth_rows bs
    have h := encT_depth b
    simp only [List.map_cons, PyData.depthAll, h]
    omega
theorem shaped_LT (bs : List (List Int)) : SeqAt.shaped (.list (bs.map encT)) = true := by
  have h := canLay_rows bs
  have e := depth_rows bs
  simp only [SeqAt.shaped, PyData.canLay0, h, PyData.depth, Bool.true_and, decide_eq_true_eq]
  exact decide_eq_true (by omega)
theorem shaped_TT (bs : List (List Int)) : SeqAt.shaped (.tuple (bs.map encT)) = true := by
  have h := canLay_rows bs
  have e := depth_rows bs
  simp only [SeqAt.shaped, PyData.canLay0, h, PyData.depth, Bool.true_and, decide_eq_true_eq]
  exact decide_eq_true (by omega)
theorem shaped_I (n : Int) : SeqAt.shaped (.int n) = true := by
  simp [SeqAt.shaped, PyData.canLay0, PyData.depth]
theorem eqvAll_ints : ∀ as bs : List Int, PyData.eqvAll (as.map PyData.int) (bs.map PyData.int) = decide (as = bs)
  | [], [] => by simp [PyData.eqvAll]
  | [], b :: bs => by simp [PyData.eqvAll]
  | a :: as, [] => by simp [PyData.eqvAll]
  | a :: as, b :: bs => by
    have ih := eqvAll_ints as bs
    simp only [List.map_cons, PyData.eqvAll, PyData.eqv, ih, List.cons.injEq, Bool.decide_and, Bool.beq_eq_decide_eq]
theorem eqvAll_rows : ∀ as bs : List (List Int), PyData.eqvAll (as.map encT) (bs.map encT) = decide (as = bs)
  | [], [] => by simp [PyData.eqvAll]
  | [], b :: bs => by simp [PyData.eqvAll]
  | a :: as, [] => by simp [PyData.eqvAll]
  | a :: as, b :: bs => by
    have ih := eqvAll_rows as bs
    have h := eqvAll_ints a b
    simp [PyData.eqvAll, PyData.eqv, encT, ih, h]
theorem ee_neLI {as bs : List Int} (ha : EE ta Γ (rL rInt) as) (hb : EE tb Γ (rL rInt) bs) : EE (tOp (rNeD K) ta tb) Γ rBool (!decide (as = bs)) :=
  (ee_neDat (ha.imp fun _ _ r => dp_L dp_int r) (hb.imp fun _ _ r => dp_L dp_int r) (shaped_LI _) (shaped_LI _)).is (by simp [PyData.eqv, eqvAll_ints])
theorem dp_row {b : Hp} (a : List Int) (v : V) (h : (rT rInt).r a v b) : Dp K b v (encT a) := dp_T dp_int h
theorem ee_eqLT {as bs : List (List Int)} (ha : EE ta Γ (rL (rT rInt)) as) (hb : EE tb Γ (rL (rT rInt)) bs) : EE (tOp (rEqD K) ta tb) Γ rBool (decide (as = bs)) :=
  (ee_eqDat (ha.imp fun _ _ r => dp_L dp_row r) (hb.imp fun _ _ r => dp_L dp_row r) (shaped_LT _) (shaped_LT _)).is (by simp [PyData.eqv, eqvAll_rows])
theorem ee_neTT {as bs : List (List Int)} (ha : EE ta Γ (rT (rT rInt)) as) (hb : EE tb Γ (rT (rT rInt)) bs) : EE (tOp (rNeD K) ta tb) Γ rBool (!decide (as = bs)) :=
  (ee_neDat (ha.imp fun _ _ r => dp_T dp_row r) (hb.imp fun _ _ r => dp_T dp_row r) (shaped_TT _) (shaped_TT _)).is (by simp [PyData.eqv, eqvAll_rows])

/-! ### sorted rows, sets of rows -/
theorem p2_swap {F : α → V → Prop} {as : List α} {xs : List V} (h : P2 F as xs) : ∀ x, x ∈ xs → ∃ a, a ∈ as ∧ F a x := fun x hx => by
  obtain ⟨i, hi, rfl⟩ := List.mem_iff_getElem.mp hx
  obtain ⟨a, ha, f⟩ := h.atr (List.getElem?_eq_getElem hi)
  exact ⟨a, List.mem_of_getElem? ha, f⟩
theorem p2_rows {b : Hp} {bs : List (List Int)} {xs : List V} (h : P2 (fun a x => (rT rInt).r a x b) bs xs) : ∃ ks : List (Addr × List Int), xs = ks.map (fun p => V.ref p.1) ∧ bs = ks.map (·.2) ∧ ∀ p ∈ ks, b p.1 = some (.tup (p.2.map V.int)) := by
  induction h with
  | nil => exact ⟨[], rfl, rfl, fun _ z => nomatch z⟩
  | @cons a x as xs h t ih =>
    obtain ⟨ks, rfl, rfl, hk⟩ := ih
    obtain ⟨p, ys, rfl, hp, py⟩ := h
    rw [ints_of py] at hp
    exact ⟨(p, a) :: ks, rfl, rfl, fun q hq => (List.mem_cons.mp hq).elim (fun z => z ▸ hp) (hk q)⟩
theorem rows_p2 {b : Hp} : ∀ {ks : List (Addr × List Int)}, (∀ p ∈ ks, b p.1 = some (.tup (p.2.map V.int))) → P2 (fun a x => (rT rInt).r a x b) (ks.map (·.2)) (ks.map fun p => V.ref p.1)
  | [], _ => .nil
  | p :: ks, h => .cons ⟨p.1, _, rfl, h p (.head _), p2_ints _⟩ (rows_p2 fun q hq => h q (.tail _ hq))
theorem ee_sortT {bs : List (List Int)} (ha : EE ta Γ (rL (rT rInt)) bs) (hl : bs.length ≤ 100000) : EE (tCB (rSortT K) (tCons ta tNil)) Γ (rL (rT rInt)) (lsort bs) := ee_call1 ha fun x w Q r k => by
  obtain ⟨p, xs, rfl, hp, h⟩ := r
  refine ⟨p, xs, bs, fun a x => (rT rInt).r a x w.b, rfl, SqL.of (w.ex _ _ hp), h, fun b x z => ?_, hl, fun ys l hl' py => ?_⟩
  · obtain ⟨q, ys, rfl, hq, py⟩ := z
    rw [ints_of py] at hq
    exact ⟨q, rfl, SqT.of (w.ex _ _ hq)⟩
  · exact k _ (w.new l _) (Le.new hl') ⟨l, ys, rfl, Wd.new_at, py.mono fun _ _ z => (rT rInt).mono (Le.new hl').b z⟩
/-- sorted(set(rows)): the rows, each, in some order -/
theorem ee_sortSet {as : List (List Int)} (ha : EE ta Γ (rL (rT rInt)) as) (hl : as.length < 64) :
    EE (tCB (rSortSet K P w) (tCons (tCB (rSetOfT K P w) (tCons ta tNil)) tNil)) Γ (rBy (fun as bs => (∀ x, x ∈ bs ↔ x ∈ as) ∧ bs.length ≤ 63) (rL (rT rInt))) as := fun σ w1 q Q k => ha σ w1 q _ fun x u l r => by
  obtain ⟨p, xs, rfl, hp, h⟩ := r
  obtain ⟨ks, rfl, rfl, hk⟩ := p2_rows h
  rw [List.length_map] at hl
  refine ⟨p, ks, rfl, SqL.of (u.ex _ _ hp), fun z hz => SqT.of (u.ex _ _ (hk z hz)), hl, fun a L ha' s1 s2 => ?_⟩
  have lu : Le u (u.own a (SetTO P w a L) (u.free ha')) := Le.own ha'
  refine ⟨a, L, rfl, upd_same, fun z hz => SqT.of (lu.h _ _ (u.ex _ _ (hk z (s1 z hz)))), fun L' p' m1 m2 ml hp' => ?_⟩
  have hL : ∀ z ∈ L', u.b z.1 = some (.tup (z.2.map V.int)) := fun z hz => hk z (s1 z (m1 z hz))
  have ln := Le.new (w := u.own a (SetTO P w a L) (u.free ha')) (o := .lst (L'.map fun q => V.ref q.1)) hp'
  refine k _ _ ((l.trans lu).trans ln) ⟨L'.map (·.2), ⟨fun y => ?_, ?_⟩, p', _, rfl, Wd.new_at, (rows_p2 hL).mono fun _ _ z => (rT rInt).mono ln.b z⟩
  · constructor
    · intro hy
      obtain ⟨z, hz, rfl⟩ := List.mem_map.mp hy
      exact List.mem_map.mpr ⟨z, s1 z (m1 z hz), rfl⟩
    · intro hy
      obtain ⟨z, hz, rfl⟩ := List.mem_map.mp hy
      obtain ⟨z1, hz1, e1⟩ := List.mem_map.mp (s2 z hz)
      obtain ⟨z2, hz2, e2⟩ := List.mem_map.mp (m2 z1 hz1)
      have g1 := hk z1 (s1 z1 hz1)
      have g2 := hL z2 hz2
      have e2 : z2.1 = z1.1 := e2
      rw [e2, g1] at g2
      have e3 : z1.2.map V.int = z2.2.map V.int := by
        injection g2 with g2
        injection g2
      have e4 : z1.2 = z2.2 := by
        have inj : ∀ a b : Int, V.int a = V.int b → a = b := fun a b e => by injection e
        exact List.map_inj_right (fun a b e => inj a b e) |>.mp e3
      have e1 : z1.2 = z.2 := e1
      exact List.mem_map.mpr ⟨z2, hz2, by rw [← e4, e1]⟩
  · rw [List.length_map]
    omega

/-! ### dicts that count rows -/
def keyI (t : List Int) : List Key := t.map Sum.inl
theorem keyI_inj {a b : List Int} (h : keyI a = keyI b) : a = b := List.map_inj_right (fun x y e => Sum.inl.inj e) |>.mp h
theorem keyI_kV (t : List Int) : (keyI t).map kV = t.map V.int := by
  unfold keyI
  rw [List.map_map]
  rfl
structure DcOk (trs : List (List Int)) (kvs : List (List Key × V)) : Prop where
  get : ∀ t : List Int, (valV kvs (keyI t)).getD (.int 0) = .int ((trs.count t : Nat) : Int)
  keys : ∃ ks : List (List Int), kvs.map (·.1) = ks.map keyI ∧ ∀ t, t ∈ ks ↔ t ∈ trs
  len : kvs.length ≤ trs.length
theorem DcOk.nil : DcOk [] [] := ⟨fun _ => rfl, ⟨[], rfl, fun _ => Iff.rfl⟩, Nat.le_refl _⟩
theorem valV_none_iff {kvs : List (List Key × V)} {k : List Key} : valV kvs k = none ↔ k ∉ kvs.map (·.1) := by
  constructor
  · exact valV_not
  · intro h
    cases e : valV kvs k with
    | none => rfl
    | some v => exact absurd (valV_in e) h
theorem putK_keys {kvs : List (List Key × V)} {k : List Key} {v : V} (h : (valV kvs k).isSome = true) : (putK kvs k v).map (·.1) = kvs.map (·.1) ∧ (putK kvs k v).length = kvs.length := by
  have e : (kvs.any fun kv => decide (kv.1 = k)) = true := by rw [valV_any, h]
  unfold putK
  rw [if_pos e]
  refine ⟨?_, by rw [List.length_map]⟩
  rw [List.map_map]
  refine List.map_congr_left fun kv _ => ?_
  show (if kv.1 = k then (kv.1, v) else kv).1 = kv.1
  split <;> rfl
theorem DcOk.put {trs : List (List Int)} {kvs : List (List Key × V)} (h : DcOk trs kvs) (t : List Int) : DcOk (trs ++ [t]) (putK kvs (keyI t) (.int ((trs.count t : Nat) + 1))) := by
  obtain ⟨ks, hk, hm⟩ := h.keys
  refine ⟨fun t' => ?_, ?_, ?_⟩
  · rw [valV_put, List.count_append, List.count_singleton]
    by_cases e : t' = t
    · subst e
      rw [if_pos rfl]
      simp
    · rw [if_neg (fun z => e (keyI_inj z))]
      have : (t == t') = false := by simp [show ¬ t = t' from fun z => e z.symm]
      rw [h.get t', this]
      simp
  · by_cases hs : (valV kvs (keyI t)).isSome = true
    · have hin : keyI t ∈ kvs.map (·.1) := by
        obtain ⟨v, hv⟩ := Option.isSome_iff_exists.mp hs
        exact valV_in hv
      rw [hk] at hin
      obtain ⟨t2, h2, e2⟩ := List.mem_map.mp hin
      have e3 := keyI_inj e2
      subst e3
      refine ⟨ks, by rw [(putK_keys hs).1, hk], fun x => ?_⟩
      rw [hm, List.mem_append, List.mem_singleton]
      exact ⟨Or.inl, fun z => z.elim id fun q => q ▸ (hm _).mp h2⟩
    · have hn : valV kvs (keyI t) = none := by simpa using hs
      refine ⟨ks ++ [t], by rw [putK_new _ hn, List.map_append, hk, List.map_append]; rfl, fun x => ?_⟩
      rw [List.mem_append, List.mem_append, hm]
  · rw [List.length_append]
    have := h.len
    by_cases hs : (valV kvs (keyI t)).isSome = true
    · rw [(putK_keys hs).2]
      omega
    · have hn : valV kvs (keyI t) = none := by simpa using hs
      rw [putK_new _ hn, List.length_append]
      simp only [List.length_singleton]
      omega
/-- a dict: how often each row comes -/
def rDc : Rel (List (List Int)) := ⟨fun trs v H => ∃ d kvs, v = .ref d ∧ H d = some (.dT kvs) ∧ DcOk trs kvs, fun e ⟨d, kvs, h1, h2, h3⟩ => ⟨d, kvs, h1, e _ _ h2, h3⟩⟩
def ownDc (trs : List (List Int)) : Own := ⟨fun o _ => ∃ kvs, o = .dT kvs ∧ DcOk trs kvs, fun _ h => h, fun ⟨xs, h, _⟩ => by
  rw [h]
  trivial⟩
theorem ee_get {trs : List (List Int)} {t : List Int} (ha : EE ta Γ rDc trs) (hb : EE tb Γ (rT rInt) t) : EE (tDGet2 ta tb (tC (.int 0))) Γ rInt ((trs.count t : Nat) : Int) := fun σ w q Q k =>
  ha σ w q _ fun x u1 l1 r1 => by
    obtain ⟨d, kvs, rfl, hd, ok⟩ := r1
    refine ⟨d, rfl, .inr ⟨kvs, .inl (u1.ex _ _ hd)⟩, hb σ u1 (q.mono l1) _ fun y u2 l2 r2 => ?_⟩
    obtain ⟨p, ys, rfl, hp, py⟩ := r2
    rw [ints_of py, ← keyI_kV] at hp
    refine ⟨_, DGet.t (u2.ex _ _ (l2.b _ _ hd)) (u2.ex _ _ hp), k _ u2 (l1.trans l2) ?_⟩
    exact ok.get t
/-- tuples that are known come into the base -/
def Wd.soak (w : Wd) (f : Addr → Prop) [DecidablePred f] (h : ∀ p, f p → ∃ xs, w.h p = some (.tup xs)) : Wd := ⟨fun p => if f p then w.h p else w.b p, w.h, fun a o e => by
  have e : (if f a then w.h a else w.b a) = some o := e
  by_cases q : f a
  · rw [if_pos q] at e
    exact e
  · rw [if_neg q] at e
    exact w.ex a o e⟩
theorem Le.soak {w : Wd} {f : Addr → Prop} [DecidablePred f] {h : ∀ p, f p → ∃ xs, w.h p = some (.tup xs)} : Le w (w.soak f h) := by
  refine ⟨fun a o e => ?_, Ex.refl _, fun p o t e z => ?_⟩
  · show (if f a then w.h a else w.b a) = some o
    by_cases q : f a
    · rw [if_pos q]
      exact w.ex a o e
    · rw [if_neg q]
      exact e
  · show (if f p then w.h p else w.b p) = none
    by_cases q : f p
    · obtain ⟨xs, hx⟩ := h p q
      rw [hx] at e
      cases e
      exact t.elim
    · rw [if_neg q]
      exact z
theorem keys_rows {H : Hp} : ∀ {kvs : List (List Key × V)} {bs : List Addr} {ks : List (List Int)}, IsKeys H kvs bs → kvs.map (·.1) = ks.map keyI → P2 (fun (t : List Int) (b : Addr) => H b = some (.tup (t.map V.int))) ks bs
  | _, _, [], .nil, _ => .nil
  | _, _, [], .cons _ _, e => by simp at e
  | _, _, _ :: _, .nil, e => by simp at e
  | _, _, t :: ks, .cons h r, e => by
    simp only [List.map_cons, List.cons.injEq] at e
    refine .cons ?_ (keys_rows r e.2)
    rw [h, e.1, keyI_kV]
theorem ee_listD {trs : List (List Int)} (ha : EE ta Γ rDc trs) : EE (tCB rListDT (tCons ta tNil)) Γ (rBy (fun trs ks => (∀ t, t ∈ ks ↔ t ∈ trs) ∧ ks.length ≤ trs.length) (rL (rT rInt))) trs := ee_call1 ha fun x w Q r k => by
  obtain ⟨d, kvs, rfl, hd, ok⟩ := r
  obtain ⟨ks, hk, hm⟩ := ok.keys
  refine ⟨d, kvs, rfl, .inl (w.ex _ _ hd), fun p bs hp hb => ?_⟩
  have hr := keys_rows hb hk
  have hs : ∀ q, q ∈ bs → ∃ xs, w.h q = some (.tup xs) := fun q hq => by
    obtain ⟨i, hi, rfl⟩ := List.mem_iff_getElem.mp hq
    obtain ⟨t, _, ht⟩ := hr.atr (List.getElem?_eq_getElem hi)
    exact ⟨_, ht⟩
  have l1 : Le w (w.soak (· ∈ bs) hs) := Le.soak
  have l2 := Le.new (w := w.soak (· ∈ bs) hs) (o := .lst (bs.map V.ref)) hp
  refine k (.ref p) _ (l1.trans l2) ⟨ks, ⟨hm, ?_⟩, p, _, rfl, Wd.new_at, ?_⟩
  · have := congrArg List.length hk
    rw [List.length_map, List.length_map] at this
    rw [← this]
    exact ok.len
  · have hin : ∀ b, b ∈ bs → (w.soak (· ∈ bs) hs).b b = w.h b := fun b hb => if_pos hb
    have go : ∀ {ks : List (List Int)} {cs : List Addr}, P2 (fun (t : List Int) (b : Addr) => w.h b = some (.tup (t.map V.int))) ks cs → (∀ c, c ∈ cs → c ∈ bs) → P2 (fun a x => (rT rInt).r a x ((w.soak (· ∈ bs) hs).new p (.lst (bs.map V.ref))).b) ks (cs.map V.ref) := by
      intro ks cs q
      induction q with
      | nil => intro _; exact .nil
      | @cons t c ks cs h _ ih =>
        intro hc
        refine .cons ⟨c, _, rfl, l2.b _ _ ?_, p2_ints _⟩ (ih fun x hx => hc x (.tail _ hx))
        rw [hin c (hc c (.head _))]
        exact h
    exact go hr fun _ h => h
/-- found = {} -/
theorem go_ownD {i : Nat} (hi : i < Γ.s.length) (k : Go tz D (Γ.own i (ownDc [])) w0) : Go (tSeq (tAsg tDNewT (gName i)) tz) D Γ w0 := fun σ w q => fun p hp =>
  k (σ.set i (some (.ref p))) (w.own p (.dT []) (w.free hp)) ⟨sat_own q.sat hi hp ⟨[], rfl, .nil⟩, q.le.trans (Le.own hp), q.kb, fun j C p' e e2 => by
    have e' : some (i, _) = some (j, C) := e
    cases e'
    rw [List.getElem?_set_self (by rw [q.sat.len]; exact hi)] at e2
    cases e2
    cases z : w0.w.h p with
    | none => rfl
    | some o =>
      rw [q.le.h _ _ z] at hp
      cases hp⟩
/-- found[trace] = found.get(trace, 0) + 1 -/
theorem go_count {i j : Nat} {trs : List (List Int)} {t : List Int} (ho : Γ.o = some (i, ownDc trs)) (ht : Γ.s[j]? = some (some ⟨rT rInt, t⟩)) (hl : trs.length < 90000) (k : Go tz D ⟨Γ.s, some (i, ownDc (trs ++ [t]))⟩ w0) :
    Go (tSeq (sDPut (tVar i) (tVar j) (tOp (rI0 fun i j => .int (i + j)) (tDGet2 (tVar i) (tVar j) (tC (.int 0))) (tC (.int 1)))) tz) D Γ w0 := fun σ w q => by
  obtain ⟨p, o, h1, h2, h3, kvs, rfl, ok⟩ := q.sat.ow i _ ho
  obtain ⟨v, g1, b, ys, rfl, hb, py⟩ := q.sat.im j _ ht
  rw [ints_of py, ← keyI_kV] at hb
  have hbh := w.ex _ _ hb
  refine ⟨.ref p, h1, p, rfl, .inr ⟨kvs, .inl h2⟩, .ref b, g1, _, DGet.t h2 hbh, ?_⟩
  refine ⟨((trs.count t : Nat) : Int), 1, ok.get t, rfl, .ref p, h1, .ref b, g1, p, _, rfl, DPut.t h2 hbh (sz_lt (by have := ok.len; omega)), ?_⟩
  exact k σ _ (sats_mut (o := .dT (putK kvs (keyI t) _)) q ho h1 h3 ⟨_, rfl, ok.put t⟩)
theorem go_fixD {i : Nat} {trs : List (List Int)} {tt : TS} (ho : Γ.o = some (i, ownDc trs)) (hi : i < Γ.s.length) (k : Go tt D (Γ.fix i rDc trs) w0) : Go tt D Γ w0 :=
  go_fixG (R := rDc) (a := trs) ho hi (fun p o H hc hp _ _ _ => by
    obtain ⟨kvs, e, ok⟩ := hc
    exact ⟨p, kvs, rfl, e ▸ hp, ok⟩) k
end
end EM

set_option Elab.async false
set_option linter.all false
set_option maxRecDepth 100000
/-! EmMath: layouts, rows, agreements, codes, traces, counts: the plain law. -/
namespace EM
open PySem
abbrev Blk := List Int
abbrev Lay := Int × List Blk
/-! ### lists -/
theorem nodup_len {α : Type} [DecidableEq α] : ∀ {l m : List α}, l.Nodup → (∀ x ∈ l, x ∈ m) → l.length ≤ m.length
  | [], _, _, _ => Nat.zero_le _
  | x :: l, m, h, hs => by
    rw [List.nodup_cons] at h
    have hx : x ∈ m := hs x (.head _)
    have := nodup_len (l := l) (m := m.erase x) h.2 fun y hy => (List.mem_erase_of_ne (fun (e : y = x) => h.1 (e ▸ hy))).mpr (hs y (.tail _ hy))
    rw [List.length_erase_of_mem hx] at this
    have : 0 < m.length := List.length_pos_of_mem hx
    rw [List.length_cons]
    omega
theorem nodup_full {α : Type} [DecidableEq α] {l m : List α} (h : l.Nodup) (hs : ∀ x ∈ l, x ∈ m) (hl : m.length ≤ l.length) : ∀ x ∈ m, x ∈ l := fun x hx => by
  refine Decidable.byContradiction fun hn => ?_
  have := nodup_len (l := x :: l) (m := m) (List.nodup_cons.mpr ⟨hn, h⟩) fun y hy => (List.mem_cons.mp hy).elim (fun e => e ▸ hx) (hs y)
  rw [List.length_cons] at this
  omega
theorem perm_map_inj {α β γ : Type} {f : α → β} {g : β → α} {l m : List α} (h : (l.map f).Perm (m.map f)) (hl : ∀ x ∈ l, g (f x) = x) (hm : ∀ x ∈ m, g (f x) = x) : l.Perm m := by
  have := h.map g
  rw [List.map_map, List.map_map] at this
  have e1 : l.map (g ∘ f) = l := by
    conv => rhs; rw [← List.map_id l]
    exact List.map_congr_left fun x hx => hl x hx
  have e2 : m.map (g ∘ f) = m := by
    conv => rhs; rw [← List.map_id m]
    exact List.map_congr_left fun x hx => hm x hx
  rwa [e1, e2] at this
/-! ### numbers from 0 on -/
theorem rng_nodup (n : Int) : (rng n).Nodup := by
  unfold rng
  refine List.Pairwise.map _ (fun a b h e => h ?_) List.nodup_range
  omega
theorem rng_nat (k : Nat) : rng (k : Int) = (List.range k).map fun (i : Nat) => (i : Int) := by
  unfold rng
  rw [Int.toNat_natCast]
theorem rng_take {a c : Nat} (h : a ≤ c) : (rng (c : Int)).take a = rng (a : Int) := by
  rw [rng_nat, rng_nat, ← List.map_take, List.take_range, Nat.min_eq_left h]
/-! ### layouts, images, rows -/
def vec (im : List Int) (b : Blk) : List Bool := im.map fun x => decide (x ∈ b)
def Agree (M N : Lay) (im : List Int) : Prop := (M.2.map (vec (rng im.length))).Perm (N.2.map (vec im))
structure GoodIm (n : Int) (im : List Int) : Prop where
  nd : im.Nodup
  inr : ∀ x ∈ im, 0 ≤ x ∧ x < n
def IsRow (n : Int) (r : List Int) : Prop := GoodIm n r ∧ (r.length : Int) = n
def NoRow (M N : Lay) (im : List Int) : Prop := ∀ r, IsRow M.1 r → im <+: r → ¬ Agree M N r
structure GoodL (M : Lay) : Prop where
  lo : 1 ≤ M.1
  hi : M.1 ≤ 5
  few : M.2.length ≤ 6
  blk : ∀ b ∈ M.2, b.Pairwise (· < ·) ∧ ∀ x ∈ b, 0 ≤ x ∧ x < M.1
theorem GoodIm.len {n : Int} {im : List Int} (h : GoodIm n im) (h0 : 0 ≤ n) : (im.length : Int) ≤ n := by
  have := nodup_len h.nd fun x hx => mem_rng.mpr (h.inr x hx)
  rw [rng_len] at this
  omega
theorem GoodIm.nil {n : Int} : GoodIm n [] := ⟨List.nodup_nil, fun _ h => nomatch h⟩
theorem GoodIm.snoc {n y : Int} {im : List Int} (h : GoodIm n im) (h1 : y ∈ rng n) (h2 : y ∉ im) : GoodIm n (im ++ [y]) := by
  refine ⟨?_, fun x hx => ?_⟩
  · rw [List.nodup_append]
    refine ⟨h.nd, List.nodup_cons.mpr ⟨List.not_mem_nil, List.nodup_nil⟩, fun a ha b hb e => ?_⟩
    rw [List.mem_singleton] at hb
    exact h2 (by rw [← hb, ← e]; exact ha)
  · rcases List.mem_append.mp hx with hx | hx
    · exact h.inr x hx
    · rw [List.mem_singleton.mp hx]
      exact mem_rng.mp h1
theorem IsRow.all {n : Int} {r : List Int} (h : IsRow n r) : ∀ x, 0 ≤ x → x < n → x ∈ r := fun x h0 h1 =>
  nodup_full h.1.nd (fun y hy => mem_rng.mpr (h.1.inr y hy)) (by rw [rng_len]; have := h.2; omega) x (mem_rng.mpr ⟨h0, h1⟩)
theorem IsRow.perm {n : Int} {r : List Int} (h : IsRow n r) : r.Perm (rng n) := by
  refine (List.perm_ext_iff_of_nodup h.1.nd (rng_nodup n)).mpr fun x => ⟨fun hx => mem_rng.mpr (h.1.inr x hx), fun hx => ?_⟩
  have := mem_rng.mp hx
  exact h.all x this.1 this.2
/-! ### agreements go back to the images' beginning -/
theorem vec_len (im : List Int) (b : Blk) : (vec im b).length = im.length := by unfold vec; rw [List.length_map]
theorem vec_take (im : List Int) (b : Blk) (k : Nat) : (vec im b).take k = vec (im.take k) b := by unfold vec; rw [List.map_take]
theorem vec_snoc (im : List Int) (y : Int) (b : Blk) : vec (im ++ [y]) b = vec im b ++ [decide (y ∈ b)] := by unfold vec; rw [List.map_append]; rfl
theorem agree_pre {M N : Lay} {im r : List Int} (hp : im <+: r) (h : Agree M N r) : Agree M N im := by
  obtain ⟨t, rfl⟩ := hp
  have q := h.map (List.take im.length)
  rw [List.map_map, List.map_map] at q
  unfold Agree
  have e1 : (List.take im.length ∘ vec (rng ((im ++ t).length : Int))) = vec (rng (im.length : Int)) := by
    funext b
    show (vec _ b).take _ = _
    rw [vec_take, rng_take (by simp)]
  have e2 : (List.take im.length ∘ vec (im ++ t)) = vec im := by
    funext b
    show (vec _ b).take _ = _
    rw [vec_take, List.take_left]
  rw [e1, e2] at q
  exact q
theorem noRow_not {M N : Lay} {im : List Int} (h : ¬ Agree M N im) : NoRow M N im := fun r _ hp ha => h (agree_pre hp ha)
theorem noRow_full {M N : Lay} {r : List Int} (h : NoRow M N r) (hr : IsRow M.1 r) : ¬ Agree M N r := h r hr (List.prefix_refl r)
theorem noRow_sons {M N : Lay} {im : List Int} (hl : (im.length : Int) < M.1) (h : ∀ y, y ∈ rng M.1 → y ∉ im → NoRow M N (im ++ [y])) : NoRow M N im := fun r hr hp ha => by
  obtain ⟨t, rfl⟩ := hp
  cases t with
  | nil =>
    rw [List.append_nil] at hr
    have := hr.2
    omega
  | cons y t =>
    have hy : y ∈ rng M.1 := mem_rng.mpr (hr.1.inr y (by simp))
    have hn : y ∉ im := fun hm => by
      have nd := hr.1.nd
      rw [List.nodup_append] at nd
      exact nd.2.2 y hm y (.head _) rfl
    exact h y hy hn _ hr ⟨t, by simp⟩ ha
theorem noRow_more {M N : Lay} {im : List Int} {y : Int} (h : NoRow M N im) : NoRow M N (im ++ [y]) := fun r hr hp ha => h r hr ((List.prefix_append im [y]).trans hp) ha
/-! ### codes -/
def bit (b : Bool) : Int := if b then 1 else 0
def cd (v : List Bool) : Int := v.foldl (fun a x => 2 * a + bit x) 0
theorem cd_snoc (v : List Bool) (x : Bool) : cd (v ++ [x]) = 2 * cd v + bit x := by unfold cd; rw [List.foldl_append]; rfl
def undo : Nat → Int → List Bool
  | 0, _ => []
  | k + 1, c => undo k (c / 2) ++ [decide (c % 2 = 1)]
theorem undo_snoc (k : Nat) (c : Int) (x : Bool) : undo (k + 1) (2 * c + bit x) = undo k c ++ [x] := by
  have h0 : 0 ≤ bit x ∧ bit x ≤ 1 := by unfold bit; split <;> omega
  have h1 : (2 * c + bit x) / 2 = c := by omega
  have h2 : (2 * c + bit x) % 2 = bit x := by omega
  show undo k ((2 * c + bit x) / 2) ++ [decide ((2 * c + bit x) % 2 = 1)] = _
  rw [h1, h2]
  cases x <;> rfl
theorem undo_cd : ∀ (k : Nat) (v : List Bool), v.length = k → undo k (cd v) = v
  | 0, v, h => by
    have := List.eq_nil_of_length_eq_zero h
    subst this
    rfl
  | k + 1, v, h => by
    have hne : v ≠ [] := fun e => by rw [e] at h; cases h
    have e := List.dropLast_concat_getLast hne
    have hl : v.dropLast.length = k := by rw [List.length_dropLast, h]; rfl
    rw [← e, cd_snoc, undo_snoc, undo_cd k _ hl]
def codes (M : Lay) (im : List Int) : List Int := M.2.map fun b => cd (vec im b)
theorem codes_iff {M N : Lay} {im : List Int} : isort (codes M (rng im.length)) = isort (codes N im) ↔ Agree M N im := by
  rw [isort_eq]
  have e1 : codes M (rng im.length) = (M.2.map (vec (rng im.length))).map cd := by unfold codes; rw [List.map_map]; rfl
  have e2 : codes N im = (N.2.map (vec im)).map cd := by unfold codes; rw [List.map_map]; rfl
  rw [e1, e2]
  constructor
  · intro h
    refine perm_map_inj (γ := Unit) (g := undo im.length) h (fun v hv => ?_) fun v hv => ?_
    · obtain ⟨b, _, rfl⟩ := List.mem_map.mp hv
      exact undo_cd _ _ (by rw [vec_len, rng_len]; omega)
    · obtain ⟨b, _, rfl⟩ := List.mem_map.mp hv
      exact undo_cd _ _ (vec_len _ _)
  · intro h
    exact h.map cd
def moreCodes (cs : List Int) (bs : List Blk) (p : Int) : List Int := (cs.zip bs).map fun z => 2 * z.1 + bit (decide (p ∈ z.2))
theorem moreCodes_eq (M : Lay) (im : List Int) (p : Int) : moreCodes (codes M im) M.2 p = codes M (im ++ [p]) := by
  unfold moreCodes codes
  rw [List.zip_map_left, List.map_map]
  have : ∀ bs : List Blk, (bs.zip bs).map ((fun z : Int × Blk => 2 * z.1 + bit (decide (p ∈ z.2))) ∘ Prod.map (fun b => cd (vec im b)) id) = bs.map fun b => cd (vec (im ++ [p]) b) := by
    intro bs
    induction bs with
    | nil => rfl
    | cons b bs ih =>
      rw [List.zip_cons_cons, List.map_cons, List.map_cons, ih, vec_snoc, cd_snoc]
      rfl
  exact this M.2
theorem codes_nil (M : Lay) : codes M [] = M.2.map fun _ => 0 := rfl
/-! ### traces -/
def trace (im : List Int) (b : Blk) : List Int := (rng im.length).filter fun x => decide (im.getD x.toNat 0 ∈ b)
def traces (M : Lay) (im : List Int) : List (List Int) := M.2.map (trace im)
theorem trace_vec (im : List Int) (b : Blk) : vec im b = (rng im.length).map fun x => decide (x ∈ trace im b) := by
  unfold vec
  have e : im = (rng im.length).map fun x => im.getD x.toNat 0 := by
    apply List.ext_getElem?
    intro i
    rw [rng_nat, List.map_map, List.getElem?_map]
    by_cases h : i < im.length
    · rw [List.getElem?_range h, List.getElem?_eq_getElem h]
      simp [h]
    · rw [List.getElem?_eq_none (by omega), List.getElem?_eq_none (by simp; omega)]
      rfl
  conv => lhs; rw [e]
  rw [List.map_map]
  refine List.map_congr_left fun x hx => ?_
  show decide (im.getD x.toNat 0 ∈ b) = _
  refine decide_eq_decide.mpr ?_
  unfold trace
  rw [List.mem_filter]
  simp [hx]
theorem trace_of (im : List Int) (b : Blk) : trace im b = ((rng im.length).zip (vec im b)).filterMap fun z => if z.2 then some z.1 else none := by
  have h : ∀ l : List Int, (l.zip (l.map fun x => decide (x ∈ trace im b))).filterMap (fun z => if z.2 then some z.1 else none) = l.filter fun x => decide (x ∈ trace im b) := by
    intro l
    induction l with
    | nil => rfl
    | cons x l ih =>
      rw [List.map_cons, List.zip_cons_cons, List.filterMap_cons, List.filter_cons, ih]
      by_cases hx : x ∈ trace im b <;> simp [hx]
  rw [trace_vec, h]
  refine Eq.symm ?_
  conv => rhs; unfold trace
  refine List.filter_congr fun x hx => ?_
  refine decide_eq_decide.mpr ?_
  unfold trace
  rw [List.mem_filter]
  simp [hx]
theorem traces_iff {M N : Lay} {im : List Int} : (traces M (rng im.length)).Perm (traces N im) ↔ Agree M N im := by
  have hk : (rng (im.length : Int)).length = im.length := by rw [rng_len]; omega
  have e1 : traces M (rng im.length) = (M.2.map (vec (rng im.length))).map fun v => ((rng im.length).zip v).filterMap fun z => if z.2 then some z.1 else none := by
    unfold traces
    rw [List.map_map]
    refine List.map_congr_left fun b _ => ?_
    rw [trace_of, hk]
    rfl
  have e2 : traces N im = (N.2.map (vec im)).map fun v => ((rng im.length).zip v).filterMap fun z => if z.2 then some z.1 else none := by
    unfold traces
    rw [List.map_map]
    refine List.map_congr_left fun b _ => ?_
    rw [trace_of]
    rfl
  have f1 : M.2.map (vec (rng im.length)) = (traces M (rng im.length)).map fun t => (rng im.length).map fun x => decide (x ∈ t) := by
    unfold traces
    rw [List.map_map]
    refine List.map_congr_left fun b _ => ?_
    rw [trace_vec, hk]
    rfl
  have f2 : N.2.map (vec im) = (traces N im).map fun t => (rng im.length).map fun x => decide (x ∈ t) := by
    unfold traces
    rw [List.map_map]
    refine List.map_congr_left fun b _ => ?_
    rw [trace_vec]
    rfl
  constructor
  · intro h
    unfold Agree
    rw [f1, f2]
    exact h.map _
  · intro h
    rw [e1, e2]
    exact List.Perm.map _ h
theorem agree_counts {M N : Lay} {im : List Int} (h : ∀ t, t ∈ traces M (rng im.length) ∨ t ∈ traces N im → (traces M (rng im.length)).count t = (traces N im).count t) : Agree M N im := by
  rw [← traces_iff, List.perm_iff_count]
  intro t
  by_cases h1 : t ∈ traces M (rng im.length)
  · exact h t (.inl h1)
  · by_cases h2 : t ∈ traces N im
    · exact h t (.inr h2)
    · rw [List.count_eq_zero.mpr h1, List.count_eq_zero.mpr h2]
theorem not_agree {M N : Lay} {im t : List Int} (h : (traces M (rng im.length)).count t ≠ (traces N im).count t) : ¬ Agree M N im := fun ha => by
  rw [← traces_iff, List.perm_iff_count] at ha
  exact h (ha t)
end EM

set_option Elab.async false
set_option linter.all false
set_option maxRecDepth 100000
/-! EmMat2: what a row leads to, counts that stay, papers that are taken. -/
namespace EM
open PySem
/-! ### strictly rising lists -/
theorem up_of_nodup {l : List Int} (h : l.Pairwise (· ≤ ·)) (nd : l.Nodup) : l.Pairwise (· < ·) :=
  (List.Pairwise.and h nd).imp fun h => by omega
theorem up_ext {l m : List Int} (hl : l.Pairwise (· < ·)) (hm : m.Pairwise (· < ·)) (h : ∀ x, x ∈ l ↔ x ∈ m) : l = m := by
  have p : l.Perm m := (List.perm_ext_iff_of_nodup (hl.imp fun h => by omega) (hm.imp fun h => by omega)).mpr h
  exact up_unique p (hl.imp fun h => by omega) (hm.imp fun h => by omega)
theorem isort_strict {l : List Int} (nd : l.Nodup) : (isort l).Pairwise (· < ·) := up_of_nodup (isort_up l) ((isort_perm l).nodup_iff.mpr nd)
/-! ### a block renamed -/
def ren (r : List Int) (b : Blk) : Blk := isort (b.map fun p => r.getD p.toNat 0)
def decv (r : List Int) (v : List Bool) : Blk := isort ((r.zip v).filterMap fun z => if z.2 then some z.1 else none)
theorem pick_map (f : Int → Bool) : ∀ r : List Int, ((r.zip (r.map f)).filterMap fun z => if z.2 then some z.1 else none) = r.filter f
  | [] => rfl
  | x :: r => by
    rw [List.map_cons, List.zip_cons_cons, List.filterMap_cons, List.filter_cons, pick_map f r]
    cases f x <;> rfl
theorem decv_other {n : Int} {r : List Int} (hr : IsRow n r) {c : Blk} (hc : c.Pairwise (· < ·)) (hi : ∀ x ∈ c, 0 ≤ x ∧ x < n) : decv r (vec r c) = c := by
  unfold decv vec
  rw [pick_map]
  refine up_ext (isort_strict (hr.1.nd.filter _)) hc fun x => ?_
  rw [(isort_perm _).mem_iff, List.mem_filter]
  simp only [decide_eq_true_eq]
  exact ⟨fun h => h.2, fun h => ⟨hr.all x (hi x h).1 (hi x h).2, h⟩⟩
theorem row_getD {n : Int} {r : List Int} (hr : IsRow n r) {i : Int} (h0 : 0 ≤ i) (h1 : i < n) : r[i.toNat]? = some (r.getD i.toNat 0) := by
  have := hr.2
  rw [List.getD_eq_getElem?_getD, List.getElem?_eq_getElem (by omega)]
  rfl
theorem row_inj {n : Int} {r : List Int} (hr : IsRow n r) {i j : Int} (h0 : 0 ≤ i) (h1 : i < n) (g0 : 0 ≤ j) (g1 : j < n) (e : r.getD i.toNat 0 = r.getD j.toNat 0) : i = j := by
  have a := row_getD hr h0 h1
  have b := row_getD hr g0 g1
  rw [e] at a
  have := (List.getElem?_inj (by have := hr.2; omega) hr.1.nd).mp (a.trans b.symm)
  omega
theorem row_map {n : Int} {r : List Int} (hr : IsRow n r) : r = (rng n).map fun i => r.getD i.toNat 0 := by
  have := hr.2
  apply List.ext_getElem?
  intro i
  unfold rng
  rw [List.map_map, List.getElem?_map]
  by_cases h : i < r.length
  · rw [List.getElem?_range (by omega), List.getElem?_eq_getElem h]
    simp [h]
  · rw [List.getElem?_eq_none (by omega), List.getElem?_eq_none (by simp; omega)]
    rfl
theorem pick_row (r' : Int → Int) (b : Blk) : ∀ l : List Int, (((l.map r').zip (l.map fun x => decide (x ∈ b))).filterMap fun z => if z.2 then some z.1 else none) = (l.filter fun x => decide (x ∈ b)).map r'
  | [] => rfl
  | x :: l => by
    rw [List.map_cons, List.map_cons, List.zip_cons_cons, List.filterMap_cons, List.filter_cons, pick_row r' b l]
    by_cases h : x ∈ b <;> simp [h]
theorem good_perm {n : Int} {b : Blk} (hb : b.Pairwise (· < ·)) (hi : ∀ x ∈ b, 0 ≤ x ∧ x < n) : ((rng n).filter fun x => decide (x ∈ b)).Perm b := by
  refine (List.perm_ext_iff_of_nodup ((rng_nodup n).filter _) (hb.imp fun h => by omega)).mpr fun x => ?_
  rw [List.mem_filter]
  simp only [decide_eq_true_eq]
  exact ⟨fun h => h.2, fun h => ⟨mem_rng.mpr (hi x h), h⟩⟩
theorem decv_one {n : Int} {r : List Int} (hr : IsRow n r) {b : Blk} (hb : b.Pairwise (· < ·)) (hi : ∀ x ∈ b, 0 ≤ x ∧ x < n) : decv r (vec (rng n) b) = ren r b := by
  unfold decv vec ren
  conv => lhs; rw [row_map hr]
  rw [pick_row, isort_eq]
  exact (good_perm hb hi).map _
def Leads (M N : Lay) (r : List Int) : Prop := (M.2.map (ren r)).Perm N.2
theorem leads_iff {M N : Lay} {r : List Int} (hr : IsRow M.1 r) (gM : GoodL M) (gN : GoodL N) (hn : M.1 = N.1) : Leads M N r ↔ Agree M N r := by
  have hl : (r.length : Int) = M.1 := hr.2
  have e1 : (M.2.map (vec (rng (r.length : Int)))).map (decv r) = M.2.map (ren r) := by
    rw [List.map_map]
    refine List.map_congr_left fun b hb => ?_
    rw [hl]
    exact decv_one hr (gM.blk b hb).1 (gM.blk b hb).2
  have e2 : (N.2.map (vec r)).map (decv r) = N.2 := by
    rw [List.map_map]
    conv => rhs; rw [← List.map_id N.2]
    refine List.map_congr_left fun c hc => ?_
    exact decv_other hr (gN.blk c hc).1 (by rw [hn]; exact (gN.blk c hc).2)
  constructor
  · intro h
    have q := List.Perm.map (vec r) h
    rw [List.map_map] at q
    refine List.Perm.trans ?_ q
    refine (List.Perm.of_eq (List.map_congr_left fun b hb => ?_))
    show vec (rng (r.length : Int)) b = vec r (ren r b)
    rw [hl]
    unfold vec
    have e := congrArg (List.map fun x => decide (x ∈ ren r b)) (row_map hr)
    rw [List.map_map] at e
    refine Eq.trans (List.map_congr_left fun i hi => ?_) e.symm
    refine decide_eq_decide.mpr ?_
    have hi' := mem_rng.mp hi
    unfold ren
    rw [(isort_perm _).mem_iff, List.mem_map]
    constructor
    · intro h
      exact ⟨i, h, rfl⟩
    · rintro ⟨j, hj, e⟩
      have hj' := (gM.blk b hb).2 j hj
      rw [← row_inj hr hj'.1 hj'.2 hi'.1 hi'.2 e]
      exact hj
  · intro h
    have q := List.Perm.map (decv r) h
    rw [e1, e2] at q
    exact q
/-! ### rows of blocks in order -/
theorem lsort_perm (bs : List Blk) : (lsort bs).Perm bs := List.mergeSort_perm _ _
theorem lsort_eq {as bs : List Blk} : lsort as = lsort bs ↔ as.Perm bs := by
  constructor
  · intro e
    exact (lsort_perm as).symm.trans (e ▸ lsort_perm bs)
  · intro p
    have tr : ∀ a b c : Blk, decide (a ≤ b) = true → decide (b ≤ c) = true → decide (a ≤ c) = true := fun a b c h1 h2 => by
      simp only [decide_eq_true_eq] at *
      exact List.le_trans h1 h2
    have tot : ∀ a b : Blk, (decide (a ≤ b) || decide (b ≤ a)) = true := fun a b => by
      rcases List.le_total a b with h | h <;> simp [h]
    have s1 := List.pairwise_mergeSort tr tot as
    have s2 := List.pairwise_mergeSort tr tot bs
    refine List.Perm.eq_of_pairwise (le := fun a b => decide (a ≤ b) = true) (fun a b _ _ h1 h2 => ?_) s1 s2 ((lsort_perm as).trans (p.trans (lsort_perm bs).symm))
    simp only [decide_eq_true_eq] at *
    exact List.le_antisymm h1 h2
def leadsB (M : Lay) (r : List Int) (N : Lay) : Bool := decide (M.1 = N.1) && decide (lsort (M.2.map (ren r)) = lsort N.2)
theorem leadsB_iff {M N : Lay} {r : List Int} (hr : IsRow M.1 r) (gM : GoodL M) (gN : GoodL N) : leadsB M r N = true ↔ M.1 = N.1 ∧ Agree M N r := by
  unfold leadsB
  rw [Bool.and_eq_true, decide_eq_true_eq, decide_eq_true_eq, lsort_eq]
  constructor
  · rintro ⟨h1, h2⟩
    exact ⟨h1, (leads_iff hr gM gN h1).mp h2⟩
  · rintro ⟨h1, h2⟩
    exact ⟨h1, (leads_iff hr gM gN h1).mpr h2⟩
/-! ### counts -/
def countOf (M : Lay) (ps : List Int) : Int := ((M.2.filter fun b => (ps.map fun p => decide (p ∈ b)).all id).length : Int)
def degreesM (M : Lay) : List Int := (rng M.1).map fun p => ((M.2.filter fun b => decide (p ∈ b)).length : Int)
def pairsM (M : Lay) : List Int := isort ((rng M.1).flatMap fun a => (rng2 (a + 1) M.1).map fun b => countOf M [a, b])
def sizesM (M : Lay) : List Int := isort (M.2.map fun b => (b.length : Int))
def countsBy (M : Lay) (w : Str) : PyData :=
  if w = "points" then .int M.1 else if w = "blocks" then .int (M.2.length : Int) else if w = "sizes" then .list ((sizesM M).map .int) else if w = "degrees" then .list ((isort (degreesM M)).map .int) else .list ((pairsM M).map .int)
section
variable {M N : Lay} {r : List Int} (hr : IsRow M.1 r) (gM : GoodL M) (gN : GoodL N) (hn : M.1 = N.1) (ha : Agree M N r)
include hr gM gN hn ha
/-- a question that a vector answers is answered as often -/
theorem ask_vec (f : List Bool → Bool) : (M.2.filter fun b => f (vec (rng M.1) b)).length = (N.2.filter fun c => f (vec r c)).length := by
  have q := List.Perm.filter f ha
  have := q.length_eq
  rw [List.filter_map, List.filter_map, List.length_map, List.length_map] at this
  rw [hr.2] at this
  exact this
theorem deg_eq {i : Int} (hi : i ∈ rng M.1) : (M.2.filter fun b => decide (i ∈ b)).length = (N.2.filter fun c => decide (r.getD i.toNat 0 ∈ c)).length := by
  have h := mem_rng.mp hi
  have q := ask_vec hr gM gN hn ha fun v => v.getD i.toNat false
  have e1 : ∀ b : Blk, (vec (rng M.1) b).getD i.toNat false = decide (i ∈ b) := fun b => by
    unfold vec
    rw [List.getD_eq_getElem?_getD, List.getElem?_map, rng_at (by omega)]
    simp only [Option.map_some, Option.getD_some]
    have : ((i.toNat : Nat) : Int) = i := by omega
    rw [this]
  have e2 : ∀ c : Blk, (vec r c).getD i.toNat false = decide (r.getD i.toNat 0 ∈ c) := fun c => by
    unfold vec
    rw [List.getD_eq_getElem?_getD, List.getElem?_map, row_getD hr h.1 h.2]
    rfl
  simp only [e1, e2] at q
  exact q
theorem degrees_perm : (degreesM M).Perm (degreesM N) := by
  have e : degreesM M = r.map fun p => ((N.2.filter fun c => decide (p ∈ c)).length : Int) := by
    conv => rhs; rw [row_map hr]
    rw [List.map_map]
    refine List.map_congr_left fun i hi => ?_
    rw [deg_eq hr gM gN hn ha hi]
    rfl
  rw [e]
  unfold degreesM
  rw [← hn]
  exact hr.perm.map _
theorem sizes_perm : (M.2.map fun b => (b.length : Int)).Perm (N.2.map fun b => (b.length : Int)) := by
  have q := ha.map fun v => ((v.count true : Nat) : Int)
  rw [List.map_map, List.map_map] at q
  have e1 : ∀ (l : List Int) (b : Blk), (vec l b).count true = (l.filter fun x => decide (x ∈ b)).length := by
    intro l b
    unfold vec
    induction l with
    | nil => rfl
    | cons x l ih =>
      rw [List.map_cons, List.filter_cons, List.count_cons, ih]
      by_cases h : x ∈ b <;> simp [h]
  have e2 : M.2.map ((fun v => ((v.count true : Nat) : Int)) ∘ vec (rng (r.length : Int))) = M.2.map fun b => (b.length : Int) := by
    refine List.map_congr_left fun b hb => ?_
    show ((List.count true (vec _ b) : Nat) : Int) = _
    rw [e1, hr.2, (good_perm (gM.blk b hb).1 (gM.blk b hb).2).length_eq]
  have e3 : N.2.map ((fun v => ((v.count true : Nat) : Int)) ∘ vec r) = N.2.map fun b => (b.length : Int) := by
    refine List.map_congr_left fun b hb => ?_
    show ((List.count true (vec _ b) : Nat) : Int) = _
    rw [e1, (hr.perm.filter _).length_eq, hn, (good_perm (gN.blk b hb).1 (gN.blk b hb).2).length_eq]
  rw [e2, e3] at q
  exact q
theorem pair_eq {a b : Int} (h1 : a ∈ rng M.1) (h2 : b ∈ rng M.1) : countOf M [a, b] = countOf N [r.getD a.toNat 0, r.getD b.toNat 0] := by
  have ha' := mem_rng.mp h1
  have hb' := mem_rng.mp h2
  have q := ask_vec hr gM gN hn ha fun v => v.getD a.toNat false && v.getD b.toNat false
  have e1 : ∀ (i : Int) (_ : 0 ≤ i ∧ i < M.1) (b : Blk), (vec (rng M.1) b).getD i.toNat false = decide (i ∈ b) := fun i h b => by
    unfold vec
    rw [List.getD_eq_getElem?_getD, List.getElem?_map, rng_at (by omega)]
    simp only [Option.map_some, Option.getD_some]
    have : ((i.toNat : Nat) : Int) = i := by omega
    rw [this]
  have e2 : ∀ (i : Int) (_ : 0 ≤ i ∧ i < M.1) (c : Blk), (vec r c).getD i.toNat false = decide (r.getD i.toNat 0 ∈ c) := fun i h c => by
    unfold vec
    rw [List.getD_eq_getElem?_getD, List.getElem?_map, row_getD hr h.1 h.2]
    rfl
  simp only [e1 a ha', e1 b hb', e2 a ha', e2 b hb'] at q
  unfold countOf
  simp only [List.map_cons, List.map_nil, List.all_cons, List.all_nil, id, Bool.and_true]
  rw [q]
end
/-- all pairs of a list, by f -/
def pairsOf (f : Int → Int → Int) : List Int → List Int
  | [] => []
  | x :: l => l.map (f x) ++ pairsOf f l
theorem pairsOf_perm {f : Int → Int → Int} (hf : ∀ a b, f a b = f b a) {l m : List Int} (h : l.Perm m) : (pairsOf f l).Perm (pairsOf f m) := by
  induction h with
  | nil => exact List.Perm.refl _
  | cons x h ih => exact (h.map _).append ih
  | swap x y l =>
    show (((x :: l).map (f y)) ++ (l.map (f x) ++ pairsOf f l)).Perm (((y :: l).map (f x)) ++ (l.map (f y) ++ pairsOf f l))
    rw [List.map_cons, List.map_cons, hf y x, List.cons_append, List.cons_append, ← List.append_assoc, ← List.append_assoc]
    exact (List.perm_append_comm.append_right _).cons _
  | trans _ _ h1 h2 => exact h1.trans h2
theorem pairsOf_map (f : Int → Int → Int) (g : Int → Int) : ∀ l : List Int, pairsOf (fun a b => f (g a) (g b)) l = pairsOf f (l.map g)
  | [] => rfl
  | x :: l => by
    show l.map _ ++ _ = (l.map g).map _ ++ _
    rw [pairsOf_map f g l, List.map_map]
    rfl
theorem pairsOf_congr {f g : Int → Int → Int} : ∀ {l : List Int}, (∀ a ∈ l, ∀ b ∈ l, f a b = g a b) → pairsOf f l = pairsOf g l
  | [], _ => rfl
  | x :: l, h => by
    show l.map _ ++ _ = l.map _ ++ _
    rw [pairsOf_congr fun a ha b hb => h a (.tail _ ha) b (.tail _ hb), List.map_congr_left fun b hb => h x (.head _) b (.tail _ hb)]
theorem rng2_cons {a n : Int} (h : a < n) : rng2 a n = a :: rng2 (a + 1) n := by
  unfold rng2
  have e : (n - a).toNat = (n - (a + 1)).toNat + 1 := by omega
  rw [e, List.range_succ_eq_map, List.map_cons, List.map_map]
  congr 1
  · simp
  · refine List.map_congr_left fun i _ => ?_
    show a + ((i + 1 : Nat) : Int) = a + 1 + (i : Int)
    omega
theorem rng2_nil {a n : Int} (h : n ≤ a) : rng2 a n = [] := by
  unfold rng2
  have e : (n - a).toNat = 0 := by omega
  rw [e]
  rfl
theorem pairs_flat (f : Int → Int → Int) (n : Int) : ∀ (k : Nat) (a : Int), (n - a).toNat = k → (rng2 a n).flatMap (fun a => (rng2 (a + 1) n).map (f a)) = pairsOf f (rng2 a n)
  | 0, a, h => by
    rw [rng2_nil (by omega)]
    rfl
  | k + 1, a, h => by
    rw [rng2_cons (by omega), List.flatMap_cons, pairs_flat f n k (a + 1) (by omega)]
    rfl
theorem rng_rng2 (n : Int) : rng n = rng2 0 n := by
  unfold rng rng2
  rw [Int.sub_zero]
  refine List.map_congr_left fun i _ => ?_
  omega
theorem pairsM_eq (M : Lay) : pairsM M = isort (pairsOf (fun a b => countOf M [a, b]) (rng M.1)) := by
  unfold pairsM
  rw [rng_rng2, pairs_flat _ _ _ _ rfl]
theorem countOf_comm (M : Lay) (a b : Int) : countOf M [a, b] = countOf M [b, a] := by
  unfold countOf
  simp only [List.map_cons, List.map_nil, List.all_cons, List.all_nil, id, Bool.and_true]
  simp only [Bool.and_comm]
theorem pairs_same {M N : Lay} {r : List Int} (hr : IsRow M.1 r) (gM : GoodL M) (gN : GoodL N) (hn : M.1 = N.1) (ha : Agree M N r) : pairsM M = pairsM N := by
  rw [pairsM_eq, pairsM_eq, isort_eq]
  rw [pairsOf_congr (g := fun a b => countOf N [r.getD a.toNat 0, r.getD b.toNat 0]) fun a h1 b h2 => pair_eq hr gM gN hn ha h1 h2]
  rw [pairsOf_map (fun a b => countOf N [a, b]) (fun i => r.getD i.toNat 0), ← row_map hr, ← hn]
  exact pairsOf_perm (countOf_comm N) hr.perm
theorem eqv_ints (as : List Int) : PyData.eqv (.list (as.map .int)) (.list (as.map .int)) = true := by
  simp [PyData.eqv, eqvAll_ints]
/-- a row that leads so leaves all counts -/
theorem counts_same {M N : Lay} {r : List Int} (hr : IsRow M.1 r) (gM : GoodL M) (gN : GoodL N) (hn : M.1 = N.1) (ha : Agree M N r) (w : Str) : PyData.eqv (countsBy M w) (countsBy N w) = true := by
  unfold countsBy
  have h1 : M.2.length = N.2.length := by
    have := ha.length_eq
    rwa [List.length_map, List.length_map] at this
  have h2 : sizesM M = sizesM N := isort_eq.mpr (sizes_perm hr gM gN hn ha)
  have h3 : isort (degreesM M) = isort (degreesM N) := isort_eq.mpr (degrees_perm hr gM gN hn ha)
  have h4 := pairs_same hr gM gN hn ha
  rw [h1, h2, h3, h4, hn]
  split
  · simp [PyData.eqv]
  · split
    · simp [PyData.eqv]
    · split
      · exact eqv_ints _
      · split
        · exact eqv_ints _
        · exact eqv_ints _
end EM

set_option Elab.async false
set_option linter.all false
set_option maxRecDepth 100000
/-! EmMat3: trees and papers; what is told of two layouts; the law's own answer. -/
namespace EM
open PySem
inductive Nd where
  | tr (t : List Int)
  | nx (k : Int) (sons : List (Int × Nd))
def free (n : Int) (im : List Int) : List Int := (rng n).filter fun y => !decide (y ∈ im)
def traceOk (M N : Lay) (t im : List Int) : Bool := decide (t = (rng im.length).filter fun x => decide (x ∈ t)) && !decide ((((traces M (rng im.length)).count t : Nat) : Int) = (((traces N im).count t : Nat) : Int))
mutual
def taken (M N : Lay) : Nd → List Int → Bool
  | .tr t, im => traceOk M N t im
  | .nx k sons, im => (decide (k = (im.length : Int)) && decide (k < M.1)) && (decide (sons.length = (free N.1 im).length) && takenZ M N sons (free N.1 im) im)
def takenZ (M N : Lay) : List (Int × Nd) → List Int → List Int → Bool
  | [], _, _ => true
  | s :: sons, fr, im => match fr with
    | [] => true
    | f :: fr => takenP M N s f im && takenZ M N sons fr im
def takenP (M N : Lay) : Int × Nd → Int → List Int → Bool
  | (y, nd), f, im => decide (y = f) && taken M N nd (im ++ [f])
end
theorem takenZ_iff (M N : Lay) (im : List Int) : ∀ (sons : List (Int × Nd)) (fr : List Int), takenZ M N sons fr im = true ↔ ∀ (i : Nat) s f, sons[i]? = some s → fr[i]? = some f → takenP M N s f im = true
  | [], fr => by
    unfold takenZ
    simp
  | s :: sons, [] => by
    unfold takenZ
    simp
  | s :: sons, f :: fr => by
    unfold takenZ
    rw [Bool.and_eq_true, takenZ_iff M N im sons fr]
    constructor
    · rintro ⟨h1, h2⟩ i s' f' e1 e2
      cases i with
      | zero =>
        cases (Option.some.inj (show some s = some s' from e1))
        cases (Option.some.inj (show some f = some f' from e2))
        exact h1
      | succ i => exact h2 i s' f' e1 e2
    · intro h
      exact ⟨h 0 s f rfl rfl, fun i s' f' e1 e2 => h (i + 1) s' f' e1 e2⟩
theorem mem_free {n y : Int} {im : List Int} : y ∈ free n im ↔ y ∈ rng n ∧ y ∉ im := by
  unfold free
  rw [List.mem_filter]
  simp
mutual
theorem taken_sound {M N : Lay} (hn : M.1 = N.1) : ∀ (nd : Nd) (im : List Int), taken M N nd im = true → NoRow M N im
  | .tr t, im, h => by
    have h : traceOk M N t im = true := by
      unfold taken at h
      exact h
    unfold traceOk at h
    rw [Bool.and_eq_true] at h
    refine noRow_not (not_agree (t := t) fun e => ?_)
    have h2 := h.2
    rw [e] at h2
    simp at h2
  | .nx k sons, im, h => by
    unfold taken at h
    simp only [Bool.and_eq_true, decide_eq_true_eq] at h
    obtain ⟨⟨h1, h2⟩, h3, h4⟩ := h
    refine noRow_sons (by omega) fun y hy hn' => ?_
    have hf : y ∈ free N.1 im := mem_free.mpr ⟨by rw [← hn]; exact hy, hn'⟩
    exact takenZ_sound hn sons (free N.1 im) im h4 (by omega) y hf
theorem takenZ_sound {M N : Lay} (hn : M.1 = N.1) : ∀ (sons : List (Int × Nd)) (fr im : List Int), takenZ M N sons fr im = true → fr.length ≤ sons.length → ∀ y, y ∈ fr → NoRow M N (im ++ [y])
  | [], [], im, _, _, y, hy => nomatch hy
  | [], f :: fr, im, _, hl, y, hy => by simp at hl
  | s :: sons, [], im, _, _, y, hy => nomatch hy
  | s :: sons, f :: fr, im, h, hl, y, hy => by
    unfold takenZ at h
    rw [Bool.and_eq_true] at h
    rcases List.mem_cons.mp hy with e | hy
    · subst e
      exact takenP_sound hn s y im h.1
    · exact takenZ_sound hn sons fr im h.2 (by simpa using hl) y hy
theorem takenP_sound {M N : Lay} (hn : M.1 = N.1) : ∀ (s : Int × Nd) (f : Int) (im : List Int), takenP M N s f im = true → NoRow M N (im ++ [f])
  | (y, nd), f, im, h => by
    unfold takenP at h
    rw [Bool.and_eq_true] at h
    exact taken_sound hn nd (im ++ [f]) h.2
end
/-! ### trees that are made are taken -/
theorem trace_self {M N : Lay} {im t : List Int} (h : t ∈ traces M (rng im.length) ∨ t ∈ traces N im) : t = (rng im.length).filter fun x => decide (x ∈ t) := by
  have hk : (rng (im.length : Int)).length = im.length := by rw [rng_len]; omega
  have key : ∀ (im' : List Int) (b : Blk), im'.length = im.length → trace im' b = (rng im.length).filter fun x => decide (x ∈ trace im' b) := by
    intro im' b e
    unfold trace
    rw [e]
    refine List.filter_congr fun x hx => ?_
    refine decide_eq_decide.mpr ?_
    rw [List.mem_filter]
    simp [hx]
  rcases h with h | h
  · obtain ⟨b, _, rfl⟩ := List.mem_map.mp h
    exact key _ b hk
  · obtain ⟨b, _, rfl⟩ := List.mem_map.mp h
    exact key _ b rfl
theorem taken_tr {M N : Lay} {im t : List Int} (h : t ∈ traces M (rng im.length) ∨ t ∈ traces N im) (hc : (((traces M (rng im.length)).count t : Nat) : Int) ≠ (((traces N im).count t : Nat) : Int)) : taken M N (.tr t) im = true := by
  unfold taken traceOk
  rw [← trace_self h]
  simp [hc]
theorem short_of {M N : Lay} {im : List Int} (g : GoodIm M.1 im) (h0 : 0 ≤ M.1) (h : NoRow M N im) (ha : Agree M N im) : (im.length : Int) < M.1 := by
  have := g.len h0
  refine Decidable.byContradiction fun hn => ?_
  exact noRow_full h ⟨g, by omega⟩ ha
theorem taken_nx {M N : Lay} {im : List Int} (hn : M.1 = N.1) (hl : (im.length : Int) < M.1) {ns : List Nd} (hs : ns.length = (free M.1 im).length) (h : ∀ (i : Nat) y nd, (free M.1 im)[i]? = some y → ns[i]? = some nd → taken M N nd (im ++ [y]) = true) :
    taken M N (.nx im.length ((free M.1 im).zip ns)) im = true := by
  unfold taken
  rw [← hn]
  simp only [Bool.and_eq_true, decide_eq_true_eq, List.length_zip, hs, Nat.min_self, takenZ_iff]
  refine ⟨⟨trivial, hl⟩, trivial, fun i s f e1 e2 => ?_⟩
  obtain ⟨y, nd⟩ := s
  rw [List.getElem?_zip_eq_some] at e1
  have e3 := e1.1
  rw [e2] at e3
  cases e3
  unfold takenP
  simp only [Bool.and_eq_true, decide_eq_true_eq]
  exact ⟨trivial, h i _ _ e2 e1.2⟩
/-! ### papers; what is told -/
inductive Pap where
  | cnt (w : Str)
  | tre (nd : Nd)
inductive Told where
  | ali (r : List Int)
  | unl (p : Pap)
def WORDS : List Str := ["points", "blocks", "sizes", "degrees", "pairs"]
def apartB (M N : Lay) : Pap → Bool
  | .cnt w => decide (w ∈ WORDS) && !PyData.eqv (countsBy M w) (countsBy N w)
  | .tre nd => taken M N nd []
def ToldOk (M N : Lay) : Told → Prop
  | .ali r => IsRow M.1 r ∧ M.1 = N.1 ∧ Agree M N r
  | .unl (.cnt w) => w ∈ WORDS ∧ PyData.eqv (countsBy M w) (countsBy N w) = false
  | .unl (.tre nd) => M.1 = N.1 ∧ NoRow M N [] ∧ taken M N nd [] = true
def Due (M N : Lay) : Prop := M.1 = N.1 ∧ ∃ r, IsRow M.1 r ∧ Agree M N r
def dueB (M N : Lay) (rows : List (List Int)) : Bool := rows.any fun r => leadsB M r N
section
variable {M N : Lay} (gM : GoodL M) (gN : GoodL N)
include gM gN
theorem due_iff {rows : List (List Int)} (h : ∀ r, r ∈ rows ↔ IsRow M.1 r) : dueB M N rows = true ↔ Due M N := by
  unfold dueB
  rw [List.any_eq_true]
  constructor
  · rintro ⟨r, hr, hl⟩
    have hr' := (h r).mp hr
    obtain ⟨h1, h2⟩ := (leadsB_iff hr' gM gN).mp hl
    exact ⟨h1, r, hr', h2⟩
  · rintro ⟨h1, r, hr, h2⟩
    exact ⟨r, (h r).mpr hr, (leadsB_iff hr gM gN).mpr ⟨h1, h2⟩⟩
theorem told_due {t : Told} (h : ToldOk M N t) : (∃ r, t = .ali r) ↔ Due M N := by
  constructor
  · rintro ⟨r, rfl⟩
    exact ⟨h.2.1, r, h.1, h.2.2⟩
  · rintro ⟨hn, r, hr, ha⟩
    cases t with
    | ali r => exact ⟨r, rfl⟩
    | unl p =>
      cases p with
      | cnt w =>
        have := counts_same hr gM gN hn ha w
        rw [h.2] at this
        cases this
      | tre nd => exact absurd ha (h.2.1 r hr (List.nil_prefix))
theorem papers_not (hd : Due M N) (p : Pap) : apartB M N p = false := by
  obtain ⟨hn, r, hr, ha⟩ := hd
  cases p with
  | cnt w =>
    show (decide (w ∈ WORDS) && !PyData.eqv (countsBy M w) (countsBy N w)) = false
    rw [counts_same hr gM gN hn ha w]
    simp
  | tre nd =>
    show taken M N nd [] = false
    cases h : taken M N nd [] with
    | false => rfl
    | true => exact absurd ha (taken_sound hn nd [] h r hr List.nil_prefix)
theorem paper_yes {p : Pap} (h : ToldOk M N (.unl p)) : apartB M N p = true := by
  cases p with
  | cnt w =>
    show (decide (w ∈ WORDS) && !PyData.eqv (countsBy M w) (countsBy N w)) = true
    rw [h.2]
    simp [h.1]
  | tre nd => exact h.2.2
theorem row_leads {r : List Int} (h : ToldOk M N (.ali r)) : leadsB M r N = true := (leadsB_iff h.1 gM gN).mpr h.2
end
end EM

set_option Elab.async false
set_option linter.all false
set_option maxRecDepth 100000
set_option maxHeartbeats 2000000
/-! EmNode: trees and papers in the heap; isinstance, slices, pairs, a list of one's own copied and set, over the typed layer. -/
namespace EM
open PySem PySem.Spec PyProof.Rows L2 Evl
/-- such that -/
def rS {α : Type} (P : α → Prop) (R : Rel α) : Rel α := ⟨fun a v H => P a ∧ R.r a v H, fun e ⟨h, q⟩ => ⟨h, R.mono e q⟩⟩
/-- a trace of no great length -/
abbrev rTr : Rel (List Int) := rS (fun t => t.length ≤ 1000) (rT rInt)
/-! ### trees in the heap -/
mutual
inductive NdR (H : Hp) : Nd → V → Prop
  | tr {t : List Int} {p : Addr} {y : V} (h : H p = some (.tup [.str "trace", y])) (ht : rTr.r t y H) : NdR H (.tr t) (.ref p)
  | nx {k : Int} {sons : List (Int × Nd)} {p q : Addr} {zs : List V} (h : H p = some (.tup [.str "next", .int k, .ref q])) (hq : H q = some (.tup zs)) (hs : SnR H sons zs) : NdR H (.nx k sons) (.ref p)
inductive SnR (H : Hp) : List (Int × Nd) → List V → Prop
  | nil : SnR H [] []
  | cons {y : Int} {n : Nd} {a : Addr} {v : V} {sons : List (Int × Nd)} {zs : List V} (h : H a = some (.tup [.int y, v])) (hn : NdR H n v) (hs : SnR H sons zs) : SnR H ((y, n) :: sons) (.ref a :: zs)
end
mutual
theorem NdR.mono {H H' : Hp} (e : Ex H H') : ∀ {n : Nd} {v : V}, NdR H n v → NdR H' n v
  | _, _, .tr h ht => .tr (e _ _ h) (rTr.mono e ht)
  | _, _, .nx h hq hs => .nx (e _ _ h) (e _ _ hq) (SnR.mono e hs)
theorem SnR.mono {H H' : Hp} (e : Ex H H') : ∀ {s : List (Int × Nd)} {zs : List V}, SnR H s zs → SnR H' s zs
  | _, _, .nil => .nil
  | _, _, .cons h hn hs => .cons (e _ _ h) (NdR.mono e hn) (SnR.mono e hs)
end
def rNd : Rel Nd := ⟨fun n v H => NdR H n v, fun e h => NdR.mono e h⟩
theorem snR_p2 {H : Hp} : ∀ {s : List (Int × Nd)} {zs : List V}, SnR H s zs → P2 (fun a v => (rP rInt rNd).r a v H) s zs
  | [], _, .nil => .nil
  | _ :: _, _, .cons h hn hs => .cons ⟨_, _, _, rfl, h, rfl, hn⟩ (snR_p2 hs)
theorem p2_snR {H : Hp} : ∀ {s : List (Int × Nd)} {zs : List V}, P2 (fun a v => (rP rInt rNd).r a v H) s zs → SnR H s zs
  | _, _, .nil => .nil
  | (y, n) :: s, _, .cons h t => by
    obtain ⟨p, x, z, rfl, hp, hx, hz⟩ := h
    have hx : x = .int y := hx
    subst hx
    exact .cons hp hz (p2_snR t)
section
variable {α β γ : Type} {Γ Γ' : Ctx} {R : Rel α} {S : Rel β} {T : Rel γ} {K : PySem.W.Frag} {te ta tb tc tk : TE} {tl th : TO} {tr : TA} {w0 : Ent} {D : Ends} {tz : TS}
theorem ee_trOut {t : List Int} (h : EE te Γ rNd (.tr t)) : EE te Γ (rP rStr rTr) ("trace", t) := h.imp fun v H r => by
  cases r with
  | tr h ht => exact ⟨_, _, _, rfl, h, rfl, ht⟩
theorem ee_trIn {t : List Int} (h : EE te Γ (rP rStr rTr) ("trace", t)) : EE te Γ rNd (.tr t) := h.imp fun v H r => by
  obtain ⟨p, x, y, rfl, hp, hx, hy⟩ := r
  have hx : x = .str "trace" := hx
  subst hx
  exact .tr hp hy
theorem ee_nxOut {k : Int} {s : List (Int × Nd)} (h : EE te Γ rNd (.nx k s)) : EE te Γ (rP3 rStr rInt (rT (rP rInt rNd))) ("next", k, s) := h.imp fun v H r => by
  cases r with
  | nx h hq hs => exact ⟨_, _, _, _, rfl, h, rfl, rfl, _, _, rfl, hq, snR_p2 hs⟩
theorem ee_nxIn {k : Int} {s : List (Int × Nd)} (h : EE te Γ (rP3 rStr rInt (rT (rP rInt rNd))) ("next", k, s)) : EE te Γ rNd (.nx k s) := h.imp fun v H r => by
  obtain ⟨p, x, y, z, rfl, hp, hx, hy, q, zs, e, hq, hz⟩ := r
  have hx : x = .str "next" := hx
  have hy : y = .int k := hy
  have e : z = .ref q := e
  subst hx hy e
  exact .nx hp hq (p2_snR hz)
theorem ee_sIn {P : α → Prop} {a : α} (h : EE te Γ R a) (p : P a) : EE te Γ (rS P R) a := h.imp fun _ _ r => ⟨p, r⟩
theorem ee_sOut {P : α → Prop} {a : α} (h : EE te Γ (rS P R) a) : EE te Γ R a := h.imp fun _ _ r => r.2
theorem go_know {P : α → Prop} {a : α} {i : Nat} {tt : TS} (h : Γ.s[i]? = some (some ⟨rS P R, a⟩)) (k : P a → Go tt D Γ w0) : Go tt D Γ w0 := fun σ w q =>
  let ⟨_, _, h2⟩ := q.sat.im i _ h
  k h2.1 σ w q
def rPap : Rel Pap := ⟨fun p v H => match p with
  | .cnt w => (rP rStr rStr).r ("count", w) v H
  | .tre nd => (rP rStr rNd).r ("tree", nd) v H, fun {p _ _ _} e h => by
    cases p with
    | cnt w => exact (rP rStr rStr).mono e h
    | tre nd => exact (rP rStr rNd).mono e h⟩
theorem ee_cnt {w : Str} : EE te Γ rPap (.cnt w) ↔ EE te Γ (rP rStr rStr) ("count", w) := ⟨fun h => h.imp fun _ _ r => r, fun h => h.imp fun _ _ r => r⟩
theorem ee_tre {nd : Nd} : EE te Γ rPap (.tre nd) ↔ EE te Γ (rP rStr rNd) ("tree", nd) := ⟨fun h => h.imp fun _ _ r => r, fun h => h.imp fun _ _ r => r⟩
def rTold : Rel Told := ⟨fun p v H => match p with
  | .ali r => (rP rStr (rL rInt)).r ("alike", r) v H
  | .unl p => (rP rStr rPap).r ("unlike", p) v H, fun {p _ _ _} e h => by
    cases p with
    | ali r => exact (rP rStr (rL rInt)).mono e h
    | unl p => exact (rP rStr rPap).mono e h⟩
theorem ee_ali {r : List Int} : EE te Γ rTold (.ali r) ↔ EE te Γ (rP rStr (rL rInt)) ("alike", r) := ⟨fun h => h.imp fun _ _ r => r, fun h => h.imp fun _ _ r => r⟩
theorem ee_unl {p : Pap} : EE te Γ rTold (.unl p) ↔ EE te Γ (rP rStr rPap) ("unlike", p) := ⟨fun h => h.imp fun _ _ r => r, fun h => h.imp fun _ _ r => r⟩
/-- a tuple of so many things, the first a text -/
def rRow : Rel Nat := ⟨fun n v H => ∃ p s xs, v = .ref p ∧ H p = some (.tup (.str s :: xs)) ∧ xs.length + 1 = n, fun e ⟨p, s, xs, h1, h2, h3⟩ => ⟨p, s, xs, h1, e _ _ h2, h3⟩⟩
theorem ee_rowP {a : Str × β} (h : EE te Γ (rP rStr S) a) : EE te Γ rRow 2 := h.imp fun v H r => by
  obtain ⟨p, x, y, rfl, hp, hx, hy⟩ := r
  have hx : x = .str a.1 := hx
  subst hx
  exact ⟨p, _, _, rfl, hp, rfl⟩
theorem ee_rowP3 {a : Str × β × γ} (h : EE te Γ (rP3 rStr S T) a) : EE te Γ rRow 3 := h.imp fun v H r => by
  obtain ⟨p, x, y, z, rfl, hp, hx, hy⟩ := r
  have hx : x = .str a.1 := hx
  subst hx
  exact ⟨p, _, _, rfl, hp, rfl⟩
theorem ee_lenR {n : Nat} (ha : EE ta Γ rRow n) : EE (tCB (rLenS K) (tCons ta tNil)) Γ rInt (n : Int) := ee_call1 ha fun x w Q r k => by
  obtain ⟨p, s, xs, rfl, hp, h⟩ := r
  refine ⟨p, _, rfl, .inr (SqT.of (w.ex _ _ hp)), k _ w (Le.refl w) ?_⟩
  rw [List.length_cons, h]
  rfl
/-- its first is a text -/
theorem ee_hdR {n : Nat} (ha : EE ta Γ rRow n) : EE (tOp (rIxT K) ta (tC (.int 0))) Γ (rEx (fun _ => True) rStr) () :=
  ee_op0 ha (ee_int (i := 0)) fun x y w Q r1 r2 k => by
    obtain ⟨p, s, xs, rfl, hp, h⟩ := r1
    exact ⟨p, _, 0, .str s, rfl, r2, SqT.of (w.ex _ _ hp), atI_nat (j := 0) rfl, k _ ⟨s, trivial, rfl⟩⟩

/-! ### isinstance -/
theorem ee_isi {n t : String} {b : Bool} {a : α} (ha : EE ta Γ R a) (ht : ∀ x (w : Wd), R.r a x w.b → TyX K w.h x (.type t)) (hk : kitB t n = some b) : EE (tCB (rIsi K) (tCons ta (tCons (tC (.ty n)) tNil))) Γ rBool b :=
  ee_call2 ha ee_ty fun x y w Q r1 r2 k => ⟨x, .ty n, .type t, .type n, b, by rw [show y = V.ty n from r2], .ty n, ht x w r1, kit_ty hk, k _ w (Le.refl w) rfl⟩
theorem ty_int {i : Int} : ∀ x (w : Wd), rInt.r i x w.b → TyX K w.h x (.type "int") := fun x w r => (show x = V.int i from r) ▸ .base (.int i)
theorem ty_str {i : Str} : ∀ x (w : Wd), rStr.r i x w.b → TyX K w.h x (.type "str") := fun x w r => (show x = V.str i from r) ▸ .base (.str i)
theorem ty_strX {u : Unit} : ∀ x (w : Wd), (rEx (fun _ => True) rStr).r u x w.b → TyX K w.h x (.type "str") := fun x w ⟨s, _, r⟩ => (show x = V.str s from r) ▸ .base (.str s)
theorem ty_T {as : List α} : ∀ x (w : Wd), (rT R).r as x w.b → TyX K w.h x (.type "tuple") := fun x w ⟨p, xs, e, hp, _⟩ => e ▸ .base (.tup (w.ex _ _ hp))
theorem ty_P {a : α × β} : ∀ x (w : Wd), (rP R S).r a x w.b → TyX K w.h x (.type "tuple") := fun x w ⟨p, _, _, e, hp, _⟩ => e ▸ .base (.tup (w.ex _ _ hp))
theorem ty_R {n : Nat} : ∀ x (w : Wd), rRow.r n x w.b → TyX K w.h x (.type "tuple") := fun x w ⟨p, _, _, e, hp, _⟩ => e ▸ .base (.tup (w.ex _ _ hp))

/-! ### slices, sums of lists -/
def EO (to : TO) (Γ : Ctx) (o : Option Int) : Prop := ∀ σ w, Sat Γ σ w → ∀ Q : Option Int → Hp → Prop, (∀ u, Le w u → Q o u.h) → to σ w.h Q
theorem eo_none : EO tNoPart Γ none := fun σ w q Q k => k w (Le.refl w)
theorem eo_some {i : Int} (h : EE te Γ rInt i) : EO (tPart te) Γ (some i) := fun σ w q Q k => h σ w q _ fun v u l r => ⟨i, r, k u l⟩
def cutG {α : Type} (xs : List α) (lo hi : Option Int) : List α := (xs.drop (HT.sIx xs.length 0 lo)).take (HT.sIx xs.length xs.length hi - HT.sIx xs.length 0 lo)
theorem ee_slice {as : List α} {lo hi : Option Int} (ha : EE te Γ (rL R) as) (h1 : EO tl Γ lo) (h2 : EO th Γ hi) : EE (tSl (rSlL K) te tl th) Γ (rL R) (cutG as lo hi) := fun σ w q Q k =>
  ha σ w q _ fun x u1 l1 r1 => h1 σ u1 (q.mono l1) _ fun u2 l2 => h2 σ u2 ((q.mono l1).mono l2) _ fun u l => by
    obtain ⟨p, xs, rfl, hp, hx⟩ := (rL R).mono (l2.trans l).b r1
    refine ⟨p, xs, rfl, SqL.of (u.ex _ _ hp), fun p' hp' => k _ (u.new p' _) (((l1.trans l2).trans l).trans (Le.new hp')) ⟨p', _, rfl, Wd.new_at, ?_⟩⟩
    have hl := hx.len
    have e : cutV xs lo hi = cutG xs lo hi := rfl
    unfold cutG
    rw [e]
    unfold cutG
    rw [hl]
    exact ((hx.drop _).take _).mono fun _ _ z => R.mono (Le.new hp').b z
theorem ee_sliceS {ns : List Int} {lo hi : Option Int} (ha : EE te Γ (rScr K) ns) (h1 : EO tl Γ lo) (h2 : EO th Γ hi) : EE (tSl (rSlL K) te tl th) Γ (rL rInt) (cutG ns lo hi) := fun σ w q Q k =>
  ha σ w q _ fun x u1 l1 r1 => h1 σ u1 (q.mono l1) _ fun u2 l2 => h2 σ u2 ((q.mono l1).mono l2) _ fun u l => by
    obtain ⟨p, rfl, hp⟩ := (rScr K).mono (l2.trans l).b r1
    refine ⟨p, _, rfl, ex_l u.ex hp, fun p' hp' => k _ (u.new p' _) (((l1.trans l2).trans l).trans (Le.new hp')) ⟨p', _, rfl, Wd.new_at, ?_⟩⟩
    have e : cutV (ns.map V.int) lo hi = (cutG ns lo hi).map V.int := by
      unfold cutV cutG
      rw [List.length_map, List.map_take, List.map_drop]
    rw [e]
    exact p2_ints _
theorem ee_cat {as bs : List α} (ha : EE ta Γ (rL R) as) (hb : EE tb Γ (rL R) bs) (hl : as.length + bs.length ≤ 90000) : EE (tOp rCat ta tb) Γ (rL R) (as ++ bs) :=
  ee_op ha hb fun x y w Q r1 r2 k => by
    obtain ⟨p, xs, rfl, hp, hx⟩ := r1
    obtain ⟨p', ys, rfl, hp', hy⟩ := r2
    refine ⟨p, p', xs, ys, rfl, rfl, w.ex _ _ hp, w.ex _ _ hp', Nat.le_of_lt (sz_lt (by rw [← hx.len, ← hy.len]; omega)), fun q hq => k _ (w.new q _) (Le.new hq) ⟨q, _, rfl, Wd.new_at, ?_⟩⟩
    exact (hx.app hy).mono fun _ _ z => R.mono (Le.new hq).b z
theorem perm_p2 {F : α → V → Prop} {as : List α} {xs ys : List V} (p : ys.Perm xs) (h : P2 F as xs) : ∃ bs, bs.Perm as ∧ P2 F bs ys := by
  induction p generalizing as with
  | nil =>
    cases h
    exact ⟨[], List.Perm.refl _, .nil⟩
  | cons x p ih =>
    cases h with
    | cons f t =>
      obtain ⟨bs, q, g⟩ := ih t
      exact ⟨_ :: bs, q.cons _, .cons f g⟩
  | swap x y l =>
    cases h with
    | cons f t =>
      cases t with
      | cons f2 t2 => exact ⟨_, List.Perm.swap _ _ _, .cons f2 (.cons f t2)⟩
  | trans _ _ h1 h2 =>
    obtain ⟨bs, q, g⟩ := h2 h
    obtain ⟨cs, q', g'⟩ := h1 g
    exact ⟨cs, q'.trans q, g'⟩
theorem ee_sortP {as : List (Int × Int)} (ha : EE ta Γ (rL (rP rInt rInt)) as) : EE (tCB (rSortedP K) (tCons ta tNil)) Γ (rBy (fun as bs => bs.Perm as) (rL (rP rInt rInt))) as := ee_call1 ha fun x w Q r k => by
  obtain ⟨p, xs, rfl, hp, hx⟩ := r
  refine ⟨p, xs, rfl, SqL.of (w.ex _ _ hp), fun x m => ?_, fun ys q pm hq => ?_⟩
  · obtain ⟨a, _, t, y, z, e, ht, hy, hz⟩ := p2_swap hx x m
    have hy : y = .int a.1 := hy
    have hz : z = .int a.2 := hz
    subst hy hz
    exact ⟨t, a.1, a.2, e, w.ex _ _ ht⟩
  · obtain ⟨bs, pb, hb⟩ := perm_p2 pm hx
    exact k _ (w.new q _) (Le.new hq) ⟨bs, pb, q, ys, rfl, Wd.new_at, hb.mono fun _ _ z => (rP rInt rInt).mono (Le.new hq).b z⟩

/-! ### a list of one's own: copied, read, set -/
theorem go_copyT {i : Nat} {as : List α} (h : EE te Γ (rT R) as) (hi : i < Γ.s.length) (k : Go tz D (Γ.own i (ownL R as)) w0) : Go (tSeq (tAsg (tCB (rListS K) (tCons te tNil)) (gName i)) tz) D Γ w0 := fun σ w q =>
  h σ w q.sat _ fun v u l r => by
    obtain ⟨p, xs, rfl, hp, hx⟩ := r
    refine ⟨p, xs, rfl, .inr (SqT.of (u.ex _ _ hp)), fun p' hp' => k (σ.set i (some (.ref p'))) (u.own p' (.lst xs) (u.free hp')) ⟨sat_own (q.mono l).sat hi hp' ⟨xs, rfl, hx⟩, (q.mono l).le.trans (Le.own hp'), (q.mono l).kb, fun j C p2 e e2 => ?_⟩⟩
    have e' : some (i, _) = some (j, C) := e
    cases e'
    rw [List.getElem?_set_self (by rw [q.sat.len]; exact hi)] at e2
    cases e2
    cases z : w0.w.h p' with
    | none => rfl
    | some o =>
      rw [(q.mono l).le.h _ _ z] at hp'
      cases hp'
theorem ee_ixO {i : Nat} {as : List α} {k : Int} {a : α} (ho : Γ.o = some (i, ownL R as)) (hb : EE tb Γ rInt k) (h0 : 0 ≤ k) (h : as[k.toNat]? = some a) : EE (tOp (rIxL K) (tVar i) tb) Γ R a := fun σ w q Q kk => by
  obtain ⟨p, o, h1, h2, h3, xs, rfl, px⟩ := q.ow i _ ho
  refine ⟨.ref p, h1, hb σ w q _ fun y u l r => ?_⟩
  obtain ⟨v, hv, rv⟩ := px.at h
  exact ⟨p, xs, k, v, rfl, r, SqL.of (l.h _ _ h2), atI_of h0 hv, kk v u l (R.mono l.b rv)⟩
theorem ee_lenO {i : Nat} {as : List α} (ho : Γ.o = some (i, ownL R as)) : EE (tCB (rLenS K) (tCons (tVar i) tNil)) Γ rInt (as.length : Int) := fun σ w q Q kk => by
  obtain ⟨p, o, h1, h2, h3, xs, rfl, px⟩ := q.ow i _ ho
  refine ⟨.ref p, h1, p, xs, rfl, .inl (SqL.of h2), kk _ w (Le.refl w) ?_⟩
  rw [px.len]
  rfl
theorem go_setL {i : Nat} {as : List α} {a : α} {k : Int} (ho : Γ.o = some (i, ownL R as)) (h : EE te Γ R a) (hk : EE tk Γ rInt k) (h0 : 0 ≤ k) (h1 : k < (as.length : Int)) (kk : Go tz D ⟨Γ.s, some (i, ownL R (as.set k.toNat a))⟩ w0) :
    Go (tSeq (tAsg te (gSub (tVar i) tk rSetL)) tz) D Γ w0 := fun σ w q => h σ w q.sat _ fun v u l r => by
  obtain ⟨p, o, g1, g2, g3, xs, rfl, px⟩ := q.sat.ow i _ ho
  refine ⟨.ref p, g1, hk σ u (q.sat.mono l) _ fun y x l2 r2 => ?_⟩
  have l12 := l.trans l2
  have hix : ixN xs.length k = some k.toNat := by
    unfold ixN
    rw [if_pos h0, if_pos (by rw [← px.len]; exact h1)]
  refine ⟨p, xs, k, k.toNat, rfl, r2, l12.h _ _ g2, hix, ?_⟩
  exact kk σ _ (sats_mut (o := .lst (xs.set k.toNat v)) (q.mono l12) ho g1 (l12.n p (.lst xs) trivial g2 g3) ⟨_, rfl, P2.set (F := fun a y => R.r a y x.b) (R.mono l2.b r) _ (px.mono fun _ _ z => R.mono l12.b z)⟩)
/-- enumerate of an empty list -/
theorem ei_enumNil (h : EE te Γ (rL R) []) : EI (iEnum K (tCons te tNil)) Γ (rP rInt R) [] := fun σ w q RR k => h σ w q _ fun x u l r => by
  obtain ⟨p, xs, rfl, hp, hx⟩ := r
  cases hx
  refine ⟨p, [], rfl, SqL.of (u.ex _ _ hp), k _ u l fun w' e => ⟨fun i hi => absurd hi (Nat.not_lt_zero _), ⟨[], SqL.of (w'.ex _ _ (e _ _ hp)), Nat.le_refl _⟩, fun i x H' hi _ => absurd hi (Nat.not_lt_zero _)⟩⟩
end
section
variable {X : Cx} {tg e : Expr} {ta : TA}
theorem k_iE (K : PySem.W.Frag) {p pos tpos : Pos} {elts : List Expr} {kk : Nat} (hg : Gl X "enumerate") (hm : X.mg "enumerate" = none) (ha : PA X [e] ta) (hs : starEach [e] X.env = [(false, eval e X.env)] := by rfl) (h : X.K = K := by rfl) :
    PI X (.Tuple elts kk tpos) (.Call (.Name "enumerate" p) [e] [] pos) (iEnum K ta) := by
  subst h
  exact pi_enum hg hm ha hs
end
end EM

set_option Elab.async false
set_option linter.all false
set_option maxRecDepth 100000
set_option maxHeartbeats 2000000
/-! EmSet2: sorted(tuple) of tuples of whole numbers. -/
namespace EM
open PySem PySem.W PySem.SeqAt PyProof.Rows L2
section
variable {P : Program} {w : World} {A : Around} {E : Value → Shared → Prop} {s : Shared}
/-- a tuple's items are collected; the heap grows -/
theorem collect_tupT {t : Addr} {vs : List Value} {Q : List Value → Shared → Prop} (ht : s.heap.IsTuple t vs.toArray) (hz : vs.length ≤ sizeLine)
    (h : ∀ h1 : Heap, (∀ b u, s.heap.get? b = some u → h1.get? b = some u) → s.heap.objs.size ≤ h1.objs.size → Q vs { s with heap := h1 }) : wpAny (model P w) A (collect (.ref t)) Q E s := by
  obtain ⟨o, ho, hc, n, hd⟩ := ht
  have hS : (s.heap.push { cls := .type "list", data := .seq #[] 0 }).get? s.heap.objs.size = some { cls := .type "list", data := .seq #[] 0 } := Heap.get?_push_size _ rfl
  have hsz : vs.toArray.size ≤ sizeLine := by simpa using hz
  have last : wpAny (model P w) A (match Value.ref s.heap.objs.size with
      | Value.ref a => (load a >>= fun x => match x.data with | Data.seq xs _ => pure xs.toList | _ => unsupported "internal:collect")
      | _ => unsupported "internal:collect") Q E { s with heap := (s.heap.push { cls := .type "list", data := .seq #[] 0 }).update s.heap.objs.size (Obj.mapSeq (· ++ vs.toArray)) } := by
    refine wpAny_bind (wpAny_load (Heap.get?_update_self (Obj.mapSeq (· ++ vs.toArray)) hS rfl) (wpAny_pure ?_))
    show Q ((#[] : Array Value) ++ vs.toArray).toList _
    rw [Array.empty_append, List.toList_toArray]
    exact h _ (fun b u e => (Heap.get?_update_other _ _ (Nat.ne_of_gt (Heap.lt_size e))).trans (Heap.get?_push_of_some _ e)) (by rw [Heap.size_update, size_push']; exact Nat.le_succ _)
  unfold collect
  refine wpAny_bind (wpAny_runValue (codeAny_builtin F.entry_proto_collect (Around.under_plainId (A := A) F.plain_proto_collect _ ▸ ?_)))
  refine wpAny_bind (m := newList []) (wpAny_newObj_type (wpAny_pure ⟨plainId_quiet F.plain_list_iadd _, codeAny_builtin F.entry_list_iadd (Around.under_plainId (A := A) F.plain_list_iadd _ ▸ ?_)⟩))
  have ext := wpAny_extend_seq (prog := P) (w := w) (A := A) (s := { s with heap := s.heap.push { cls := .type "list", data := .seq #[] 0 } }) (R := fun r s' => r = .ok (.ret (.ref s.heap.objs.size)) ∧ s' = { s with heap := (s.heap.push { cls := .type "list", data := .seq #[] 0 }).update s.heap.objs.size (Obj.mapSeq (· ++ vs.toArray)) })
    s.heap.objs.size t (.ref s.heap.objs.size) 0 (.inr rfl) hS (Heap.get?_push_of_some _ ho) hc hd ⟨rfl, rfl⟩ hsz
  refine wpAny_mono ext (fun fin s' z => ?_) fun e s' z => nomatch z.1
  cases fin with
  | done f =>
    obtain ⟨q, rfl⟩ := z
    cases q
    exact last
  | again c' =>
    refine ⟨z.1, codeAny_mono z.2 fun r s'' q => ?_⟩
    obtain ⟨rfl, rfl⟩ := q
    exact last
theorem sorted_tupT {a : Addr} {vs : List Value} {bs : List (List Int)} {R : Value → List Int → Prop} {Q : Value → Shared → Prop} (ht : s.heap.IsTuple a vs.toArray) (e : EachIs R vs bs) (er : EachIs (RdT s.heap) vs bs) (hL : bs.length ≤ 1000) (hu : A.units + 4 < cLine)
    (hQ : ∀ (s' : Shared) (p : Addr) (out : List Value) (c : Nat), (∀ b o, s.heap.get? b = some o → s'.heap.get? b = some o) → s'.gens = s.gens → s'.os = s.os → s.heap.objs.size ≤ p → s'.heap.get? p = some (seqObj "list" out.toArray c) →
      out.length = bs.length → EachIs R out (lsort bs) → Q (.ref p) s') : wpAny (model P w) A (call (.builtin "sorted") [.ref a]) Q E s := by
  have hvl : vs.length ≤ 1000 := by rw [e.length]; exact hL
  have hz2 : vs.length ≤ sizeLine := by rw [sizeLine_eq]; omega
  refine Calls.call_function_entry kind_sorted plain_sorted entry_sorted (args_sorted1 _) ?_
  unfold Builtin.«sorted»
  refine wpAny_bind (m := checkCount "sorted" 1 1 _) (wpAny_pure ?_)
  refine wpAny_bind (collect_tupT ht hz2 fun h1 k1 hz => ?_)
  refine wpAny_bind (wpAny_newList ?_ hz2)
  have hoL : (h1.push (seqObj "list" vs.toArray 0)).get? h1.objs.size = some (seqObj "list" vs.toArray 0) := Heap.get?_push_size _ rfl
  have kp : ∀ b u, h1.get? b = some u → (sortingHeap (h1.push (seqObj "list" vs.toArray 0)) h1.objs.size vs).get? b = some u := fun b u e =>
    sortingHeap_old (Nat.ne_of_lt (Heap.lt_size e)) (Heap.get?_push_of_some _ e)
  have er2 : EachIs (RdT (sortingHeap (h1.push (seqObj "list" vs.toArray 0)) h1.objs.size vs)) vs bs := er.mono fun _ _ q => by
    obtain ⟨as, r⟩ := q
    exact ⟨as, PyProof.Rows.Reads.keeps (fun b u z => kp b u (k1 b u z)) r⟩
  refine wpAny_bind (wpAny_holding (wpAny_call_entry slot_list_sort ⟨_, hoL, rfl⟩ entry_list_sort (list_sort_vals (s := { s with heap := h1.push (seqObj "list" vs.toArray 0) }) hoL
    (sortsAt_tup (s := { s with heap := sortingHeap (h1.push (seqObj "list" vs.toArray 0)) h1.objs.size vs }) er2 (by show A.units + 1 + 1 + 2 < cLine; omega)) hz2 ⟨.none, rfl, ?_⟩) (args_list_sort _)))
  have q := sortVals_data (enc := encT) false e (er2.mono fun _ _ z => z) (allAlike_enc bs)
  rw [le_enc] at q
  have hol := sortVals_length (κ := dataKind (sortingHeap (h1.push (seqObj "list" vs.toArray 0)) h1.objs.size vs) (bs.map encT)) false (ks := vs) (vs := vs) rfl
  obtain ⟨c, hc2⟩ := sortedHeap_at (vs := vs) (out := (sortVals (dataKind (sortingHeap (h1.push (seqObj "list" vs.toArray 0)) h1.objs.size vs) (bs.map encT)) false vs vs).toArray) hoL
  refine wpAny_pure ⟨_, rfl, hQ _ h1.objs.size _ c (fun b u e => ?_) rfl rfl hz hc2 (by rw [hol, e.length]) q⟩
  have q := k1 b u e
  have hlt := Heap.lt_size q
  show (sortedHeap (h1.push (seqObj "list" vs.toArray 0)) h1.objs.size vs _).get? b = some u
  rw [sortedHeap_old (Nat.ne_of_lt hlt) (by rw [size_push']; exact Nat.lt_succ_of_lt hlt)]
  exact Heap.get?_push_of_some _ q
end
section
variable {X : Cx}
/-- sorted(tuple of tuples) -/
def rSortTT (K : PySem.W.Frag) : List V → Hp → VK → Prop := fun vs H Q => ∃ (a : Addr) (xs : List V) (bs : List (List Int)) (F : List Int → V → Prop), vs = [V.ref a] ∧ SqT K H a xs ∧ P2 F bs xs ∧ (∀ b x, F b x → ∃ p, x = V.ref p ∧ SqT K H p (b.map V.int)) ∧ bs.length ≤ 1000 ∧
  ∀ ys p, H p = none → P2 F (lsort bs) ys → Q (.ref p) (upd H p (.lst ys))
theorem cr_sortTT (hu : X.A.units + 4 < cLine) : CallR X (.builtin "sorted") (rSortTT X.K) := by
  intro pins s σ H vs us Q I r h
  obtain ⟨a, xs, bs, F, rfl, hs, hx, hF, hl, q⟩ := h
  obtain ⟨its, rv, hp, hz⟩ := I.tuple hs
  rw [Vals.ref1 r]
  have e := each_vals (R := RelV) hx rv
  refine sorted_tupT hp e (e.mono fun u b z => ?_) hl hu fun s' p out c k g o hpz hg h1 h2 => ?_
  · obtain ⟨x, rx, fx⟩ := z
    obtain ⟨t, rfl, ht⟩ := hF _ _ fx
    cases rx
    exact rdT_of (I.isT ht)
  · obtain ⟨ys, py, vy⟩ := vals_each h2
    have hlen : ys.length ≤ sizeLine := by
      rw [vy.length, h1]
      exact Nat.le_trans hl (by decide)
    have hn : H p = none := I.hok.fresh hpz
    have J : Inv X pins σ (upd H p (.lst ys)) { s with heap := s'.heap, gens := s'.gens, drawn := s'.drawn, toks := s'.toks } := by
      refine I.call (ch := []) (Un.laid k hpz hn) (I.hok.laid k hpz ⟨hlen, out, c, vy, hg⟩) ?_ (fun _ z => nomatch z)
      rw [g]
      exact I.bare
    have e : s' = { s with heap := s'.heap, gens := s'.gens, drawn := s'.drawn, toks := s'.toks } := by
      cases s'
      cases s
      cases o
      rfl
    rw [e]
    exact ⟨.ref p, _, J, rfl, q ys p hn py⟩
end
end EM

set_option Elab.async false
set_option linter.all false
set_option maxRecDepth 100000
set_option maxHeartbeats 1000000
/-! EmK3: walks over lists of which only a property is known; small rules for owned lists. -/
namespace EM
open PySem PySem.Spec PyProof.Rows L2 Evl
section
variable {α β γ δ : Type} {Γ Γ' : Ctx} {R : Rel α} {S : Rel β} {T : Rel γ} {U : Rel δ} {K : PySem.W.Frag} {te ta tb tc tl : TE} {tt t u : TT} {tr : TA} {ms : List Imm} {w0 : Ent} {D : Ends} {tz tu tw : TS} {g : TG} {wi : TI} {P : Program} {w : World}
def EIB {α : Type} (wi : TI) (Γ : Ctx) (R : Rel α) (F : List α → Prop) : Prop := ∀ σ w, Sat Γ σ w → ∀ RR : It → Hp → Prop, (∀ as J u, F as → Le w u → IsWalk J u.b as R → RR J u.h) → wi σ w.h RR
theorem eib_list {F : β → List α → Prop} {b : β} (h : EE tl Γ (rBy F (rL R)) b) : EIB (iList K tl) Γ R (F b) := fun σ w q RR k => h σ w q _ fun x u l r => by
  obtain ⟨as, fa, p, xs, rfl, hp, hx⟩ := r
  refine ⟨p, rfl, ⟨xs, SqL.of (u.ex _ _ hp)⟩, k as _ u fa l fun w' e => ?_⟩
  have hs : SqL K w'.h p xs := SqL.of (w'.ex _ _ (e _ _ hp))
  refine ⟨fun i hi => ?_, ⟨xs, hs, by rw [hx.len]; exact Nat.le_refl _⟩, fun i x H' hi y => ?_⟩
  · obtain ⟨v, hv, _⟩ := hx.at (List.getElem?_eq_getElem hi)
    exact ⟨xs, v, hs, hv⟩
  · obtain ⟨rfl, y⟩ := y
    obtain ⟨a, ha, ra⟩ := hx.atr (y xs hs)
    exact ⟨w', a, rfl, Le.refl _, ha, R.mono e ra⟩
theorem go_forB {F : List α → Prop} (hi : EIB wi Γ R F) (k : ∀ as, F as → ∃ (Γs : Nat → Ctx) (P : Nat → Prop) (Γb : Nat → α → Ctx) (js : List Nat), Γs 0 = Γ ∧ P 0 ∧ (∀ i a, as[i]? = some a → EG g js (Γs i) R a (Γb i a)) ∧ (∀ i a, Keep (Γs i) (Γb i a) js) ∧
    (∀ B i a, as[i]? = some a → P i → Go tu { nx := nxt (P (i + 1)) (Γs (i + 1)) ⟨w0.w, B⟩, rt := D.rt, bk := tz D, ct := nxt (P (i + 1)) (Γs (i + 1)) ⟨w0.w, B⟩ } (Γb i a) ⟨w0.w, B⟩) ∧ (P as.length → Go tz D (Γs as.length) w0)) :
    Go (tSeq (tFor wi g tu) tz) D Γ w0 := fun σ w q =>
  hi σ w q.sat _ fun as J u fa l iw => by
    obtain ⟨Γs, P, Γb, js, rfl, hP, hg, hk, hs, hd⟩ := k as fa
    refine ⟨fun i m σ H => m = as.length - i ∧ i ≤ as.length ∧ P i ∧ ∃ w1 : Wd, w1.h = H ∧ SatS (Γs i) ⟨w0.w, u.b⟩ σ w1, ⟨as.length, by simp, Nat.zero_le _, hP, u, rfl, (q.mono l).sat, (q.mono l).le, Ex.refl _, (q.mono l).new⟩, ?_⟩
    rintro i m σ H ⟨rfl, hle, p, w1, rfl, q1⟩
    obtain ⟨i1, i2, i3⟩ := iw w1 q1.kb
    by_cases hlt : i < as.length
    · refine .inr ⟨i1 i hlt, nxt (P (i + 1)) (Γs (i + 1)) ⟨w0.w, u.b⟩, fun σ' H' h => ⟨as.length - (i + 1), by omega, rfl, hlt, h⟩, fun x H' hy => ?_⟩
      obtain ⟨u1, a, rfl, l1, ha, ra⟩ := i3 i x H' hlt hy
      refine hg i a ha σ u1 x (q1.sat.mono l1) ra _ fun σ2 u2 l2 q2 e2 s2 => ?_
      exact hs u.b i a ha p σ2 u2 (sats_tgt q1 (l1.trans l2) q2 (hk i a) s2)
    · have e : i = as.length := by omega
      subst e
      exact .inl ⟨i2, hd p σ w1 ⟨q1.sat, q1.le, (q.kb.trans l.b).trans q1.kb, q1.new⟩⟩
/-- a comprehension over a list of which F is known -/
theorem ee_lcB {F : List α → Prop} {vs js : List Nat} {Γ' : α → Ctx} (k : α → β) (hi : EIB wi Γ R F) (hc : Clear Γ vs) (hj : ∀ j, j ∈ js → j ∈ vs) (hg : ∀ a, EG g js Γ R a (Γ' a))
    (he : ∀ as a, F as → a ∈ as → EE te (Γ' a) S (k a)) (hl : ∀ as, F as → as.length ≤ 90000) : EE (tLc wi g tYes te vs) Γ (rBy (fun (F : List α → Prop) bs => ∃ as, F as ∧ bs = as.map k) (rL S)) F := fun σ w q Q kk =>
  hi σ w q _ fun as J u fa l iw => fun p hp => by
    have hl := hl as fa
    refine ⟨fun i m H => m = as.length - i ∧ i ≤ as.length ∧ ∃ w1 : Wd, w1.h = H ∧ Le u w1 ∧ w1.b p = none ∧ ∃ ys, w1.h p = some (.lst ys) ∧ P2 (fun a x => S.r a x w1.b) ((as.take i).map k) ys,
      ⟨as.length, by simp, Nat.zero_le _, u.own p (.lst []) (u.free hp), rfl, Le.own hp, u.free hp, [], upd_same, .nil⟩, ?_⟩
    rintro i m H ⟨rfl, hle, w1, rfl, lw, hb, ys, hy, py⟩
    obtain ⟨i1, i2, i3⟩ := iw w1 lw.b
    by_cases hlt : i < as.length
    · refine .inr ⟨i1 i hlt, fun H' => ∃ w1 : Wd, w1.h = H' ∧ Le u w1 ∧ w1.b p = none ∧ ∃ ys, w1.h p = some (.lst ys) ∧ P2 (fun a x => S.r a x w1.b) ((as.take (i + 1)).map k) ys,
        fun H' h => ⟨as.length - (i + 1), by omega, rfl, hlt, h⟩, fun x H' hy' => ?_⟩
      obtain ⟨u1, a, rfl, l1, ha, ra⟩ := i3 i x H' hlt hy'
      have hm : a ∈ as := List.mem_of_getElem? ha
      have q1 : Sat Γ (wipe σ vs) u1 := sat_wipe (q.mono (l.trans (lw.trans l1))) hc
      refine hg a (wipe σ vs) u1 x q1 ra _ fun σ2 u2 l2 q2 e2 s2 => ⟨wipe_same (by rw [e2, wipe_length]) s2 hj, ?_⟩
      refine et_yes σ2 u2 q2 _ fun u3 l3 => ?_
      rw [take_succ_at ha, List.map_append]
      have l13 := l1.trans (l2.trans l3)
      show te σ2 u3.h _
      refine he as a fa hm σ2 u3 (q2.mono l3) _ fun y u4 l4 r4 => ?_
      have l14 := l13.trans l4
      refine ⟨ys, l14.h _ _ hy, ?_, u4.own p (.lst (ys ++ [y])) (l14.n p (.lst ys) trivial hy hb), rfl, Le.mut (lw.trans l14) hp (l14.n p (.lst ys) trivial hy hb), l14.n p (.lst ys) trivial hy hb, ys ++ [y], upd_same, ?_⟩
      · have h1 := py.len
        rw [← h1, List.length_map, List.length_take]
        exact sz_lt (by omega)
      · exact (py.mono fun _ _ z => S.mono l14.b z).snoc r4
    · have e : i = as.length := by omega
      subst e
      refine .inl ⟨i2, ?_⟩
      rw [List.take_length] at py
      exact kk _ (w1.fix p _ hy) (Le.fix (w0 := w) (l.trans lw) (by
        cases z : w.h p with
        | none => rfl
        | some o =>
          rw [l.h _ _ z] at hp
          cases hp) hb) ⟨_, ⟨as, fa, rfl⟩, p, ys, rfl, upd_same, py.mono fun _ _ z => S.mono (Ex.new hb) z⟩
/-- sorted(set(rows)) of rows of which F is known -/
theorem ee_sortSetB {F : β → List (List Int) → Prop} {b : β} (ha : EE ta Γ (rBy F (rL (rT rInt))) b) (hl : ∀ as, F b as → as.length < 64) :
    EE (tCB (rSortSet K P w) (tCons (tCB (rSetOfT K P w) (tCons ta tNil)) tNil)) Γ (rBy (fun b bs => ∃ as, F b as ∧ (∀ x, x ∈ bs ↔ x ∈ as) ∧ bs.length ≤ 63) (rL (rT rInt))) b := fun σ w1 q Q k => ha σ w1 q _ fun x u l r => by
  obtain ⟨as, fa, p, xs, rfl, hp, h⟩ := r
  have hl := hl as fa
  obtain ⟨ks, rfl, rfl, hk⟩ := p2_rows h
  rw [List.length_map] at hl
  refine ⟨p, ks, rfl, SqL.of (u.ex _ _ hp), fun z hz => SqT.of (u.ex _ _ (hk z hz)), hl, fun a L ha' s1 s2 => ?_⟩
  have lu : Le u (u.own a (SetTO P w a L) (u.free ha')) := Le.own ha'
  refine ⟨a, L, rfl, upd_same, fun z hz => SqT.of (lu.h _ _ (u.ex _ _ (hk z (s1 z hz)))), fun L' p' m1 m2 ml hp' => ?_⟩
  have hL : ∀ z ∈ L', u.b z.1 = some (.tup (z.2.map V.int)) := fun z hz => hk z (s1 z (m1 z hz))
  have ln := Le.new (w := u.own a (SetTO P w a L) (u.free ha')) (o := .lst (L'.map fun q => V.ref q.1)) hp'
  refine k _ _ ((l.trans lu).trans ln) ⟨L'.map (·.2), ⟨ks.map (·.2), fa, fun y => ?_, ?_⟩, p', _, rfl, Wd.new_at, (rows_p2 hL).mono fun _ _ z => (rT rInt).mono ln.b z⟩
  · constructor
    · intro hy
      obtain ⟨z, hz, rfl⟩ := List.mem_map.mp hy
      exact List.mem_map.mpr ⟨z, s1 z (m1 z hz), rfl⟩
    · intro hy
      obtain ⟨z, hz, rfl⟩ := List.mem_map.mp hy
      obtain ⟨z1, hz1, e1⟩ := List.mem_map.mp (s2 z hz)
      obtain ⟨z2, hz2, e2⟩ := List.mem_map.mp (m2 z1 hz1)
      have g1 := hk z1 (s1 z1 hz1)
      have g2 := hL z2 hz2
      have e2 : z2.1 = z1.1 := e2
      rw [e2, g1] at g2
      have e3 : z1.2.map V.int = z2.2.map V.int := by
        injection g2 with g2
        injection g2
      have e4 : z1.2 = z2.2 := by
        have inj : ∀ a b : Int, V.int a = V.int b → a = b := fun a b e => by injection e
        exact List.map_inj_right (fun a b e => inj a b e) |>.mp e3
      have e1 : z1.2 = z.2 := e1
      exact List.mem_map.mpr ⟨z2, hz2, by rw [← e4, e1]⟩
  · rw [List.length_map]
    omega

theorem ee_catB {F : β → List α → Prop} {G : γ → List α → Prop} {b : β} {c : γ} (ha : EE ta Γ (rBy F (rL R)) b) (hb : EE tb Γ (rBy G (rL R)) c) (hl : ∀ as bs, F b as → G c bs → as.length + bs.length ≤ 90000) :
    EE (tOp rCat ta tb) Γ (rBy (fun bc l => ∃ as bs, F bc.1 as ∧ G bc.2 bs ∧ l = as ++ bs) (rL R)) (b, c) :=
  ee_op ha hb fun x y w Q r1 r2 k => by
    obtain ⟨as, fa, p, xs, rfl, hp, hx⟩ := r1
    obtain ⟨bs, fb, p', ys, rfl, hp', hy⟩ := r2
    have hl := hl as bs fa fb
    refine ⟨p, p', xs, ys, rfl, rfl, w.ex _ _ hp, w.ex _ _ hp', Nat.le_of_lt (sz_lt (by rw [← hx.len, ← hy.len]; omega)), fun q hq => k _ (w.new q _) (Le.new hq) ⟨_, ⟨as, bs, fa, fb, rfl⟩, q, _, rfl, Wd.new_at, ?_⟩⟩
    exact (hx.app hy).mono fun _ _ z => R.mono (Le.new hq).b z
theorem go_eqC {i : Nat} {C C' : Own} {s : List (Option Imm)} {tt : TS} (e : C = C') (k : Go tt D ⟨s, some (i, C')⟩ w0) : Go tt D ⟨s, some (i, C)⟩ w0 := e ▸ k
/-- one value is known by a family -/
theorem ee_by {F : β → α → Prop} {a : α} {b : β} (h : EE te Γ R a) (f : F b a) : EE te Γ (rBy F R) b := h.imp fun _ _ r => ⟨a, f, r⟩
theorem ee_some {a : α} {o : Option α} (h : EE te Γ (rOpt R) o) (e : o = some a) : EE te Γ R a := by
  subst e
  exact h.imp fun _ _ r => r
theorem ee_opt {a : α} (h : EE te Γ R a) : EE te Γ (rOpt R) (some a) := h.imp fun _ _ r => r
theorem p2_by {F : β → α → Prop} {H : Hp} : ∀ {bs : List β} {vs : List V}, P2 (fun b v => (rBy F R).r b v H) bs vs → ∃ as, P2 F bs as ∧ P2 (fun a v => R.r a v H) as vs
  | _, _, .nil => ⟨[], .nil, .nil⟩
  | _, _, .cons ⟨a, f, r⟩ t => by
    obtain ⟨as, h1, h2⟩ := p2_by t
    exact ⟨a :: as, .cons f h1, .cons r h2⟩
end
section
variable {P : Program} {w : World} {K : PySem.W.Frag} {mg : Str → Option Value} {base : Heap} {k : Nat}
theorem fn_none {A ρ : Type} {ar : A → List Imm} {pre : A → Prop} {R : Rel ρ} {g : A → ρ} {f : Addr} {fd : FuncData} {ps : List Str} (no : ∀ a, ¬ pre a) : FnOk P w K mg base CX0 k f fd ps (spec ar pre R g) :=
  ⟨fun vs H Q E ⟨_, a, _, _, h, _⟩ => absurd h (no a), fun A outer s H args us vs Q E _ _ _ _ ⟨_, a, _, _, h, _⟩ => absurd h (no a)⟩
end
end EM

set_option Elab.async false
set_option linter.all false
set_option maxRecDepth 100000
set_option maxHeartbeats 1000000
/-! EmK4: joins, values opened, calls with what is partly known, sorted(tuple). -/
namespace EM
open PySem PySem.Spec PyProof.Rows L2 Evl
section
variable {X : Cx}
theorem k_sortTT (K : PySem.W.Frag) (hu : X.A.units + 4 < cLine) (h : X.K = K := by rfl) : CallR X (.builtin "sorted") (rSortTT K) := h ▸ cr_sortTT hu
end
section
variable {α β γ δ : Type} {Γ Γ' : Ctx} {R : Rel α} {S : Rel β} {T : Rel γ} {U : Rel δ} {K : PySem.W.Frag} {te ta tb tc tl : TE} {tt t u : TT} {tr : TA} {ms : List Imm} {w0 : Ent} {D : Ends} {tz tu tw : TS} {g : TG} {wi : TI}
theorem ee_sortTT {bs : List (List Int)} (ha : EE ta Γ (rT (rT rInt)) bs) (hl : bs.length ≤ 1000) : EE (tCB (rSortTT K) (tCons ta tNil)) Γ (rL (rT rInt)) (lsort bs) := ee_call1 ha fun x w Q r k => by
  obtain ⟨p, xs, rfl, hp, h⟩ := r
  refine ⟨p, xs, bs, fun a x => (rT rInt).r a x w.b, rfl, SqT.of (w.ex _ _ hp), h, fun b x z => ?_, hl, fun ys l hl' py => ?_⟩
  · obtain ⟨q, ys, rfl, hq, py⟩ := z
    rw [ints_of py] at hq
    exact ⟨q, rfl, SqT.of (w.ex _ _ hq)⟩
  · exact k _ (w.new l _) (Le.new hl') ⟨l, ys, rfl, Wd.new_at, py.mono fun _ _ z => (rT rInt).mono (Le.new hl').b z⟩
/-- behind an if, whichever way was taken -/
theorem go_join {ι : Type} (Γf : ι → Ctx) {b : Bool} {t1 : TS} (k : ∀ i, Go tz D (Γf i) w0) (h : ET tt Γ b) (h1 : b = true → (∀ i, Go tz D (Γf i) w0) → Go t1 { D with nx := tz D } Γ w0) (h2 : b = false → (∀ i, Go tz D (Γf i) w0) → Go tz D Γ w0) : Go (tSeq (tIfS tt t1 tNext) tz) D Γ w0 :=
  go_when h (fun e => h1 e k) fun e => h2 e k
/-- what is in a slot is looked at -/
theorem go_open {P : α → Prop} {i : Nat} {v : Unit} {tt : TS} (h : Γ.s[i]? = some (some ⟨rEx P R, v⟩)) (k : ∀ a, P a → Go tt D (Γ.set i R a) w0) : Go tt D Γ w0 := fun σ w q => by
  obtain ⟨x, h1, a, p, r⟩ := q.sat.im i _ h
  have e : σ.set i (some x) = σ := by
    apply List.ext_getElem?
    intro j
    rw [List.getElem?_set]
    split
    · rename_i e
      subst e
      have hl := (List.getElem?_eq_some_iff.mp h1).1
      rw [if_pos hl, h1]
    · rfl
  have z := k a p (σ.set i (some x)) w (sats_set q r)
  rw [e] at z
  exact z
theorem go_openB {F : β → α → Prop} {b : β} {i : Nat} {tt : TS} (h : Γ.s[i]? = some (some ⟨rBy F R, b⟩)) (k : ∀ a, F b a → Go tt D (Γ.set i R a) w0) : Go tt D Γ w0 := fun σ w q => by
  obtain ⟨x, h1, a, p, r⟩ := q.sat.im i _ h
  have e : σ.set i (some x) = σ := by
    apply List.ext_getElem?
    intro j
    rw [List.getElem?_set]
    split
    · rename_i e
      subst e
      have hl := (List.getElem?_eq_some_iff.mp h1).1
      rw [if_pos hl, h1]
    · rfl
  have z := k a p (σ.set i (some x)) w (sats_set q r)
  rw [e] at z
  exact z
theorem go_tgtX {P : α → Prop} {js : List Nat} {Γ' : α → Ctx} (h : EE te Γ (rEx P R) ()) (hg : ∀ a, P a → EG g js Γ R a (Γ' a)) (hk : ∀ a, Keep Γ (Γ' a) js) (k : ∀ a, P a → Go tz D (Γ' a) w0) : Go (tSeq (tAsg te g) tz) D Γ w0 := fun σ w q =>
  h σ w q.sat _ fun v u l ⟨a, p, r⟩ => hg a p σ u v (q.sat.mono l) r _ fun σ' x l2 q2 _ s => k a p σ' x (sats_tgt q (l.trans l2) q2 (hk a) s)
/-- a call whose arguments are known in part -/
theorem ee_callE {A ρ : Type} {ar : A → List Imm} {pre : A → Prop} {R : Rel ρ} {f : A → ρ} {E : XK} {c : γ} (h : EA tr Γ ms) (hx : ∀ vs H, P2 (fun (m : Imm) v => m.R.r m.a v H) ms vs → ∃ a, P2 (fun (m : Imm) v => m.R.r m.a v H) (ar a) vs ∧ pre a ∧ ∀ v H', R.r (f a) v H' → T.r c v H') :
    EE (tCall (spec ar pre R f) [] E tr) Γ T c := fun σ w q Q k =>
  h σ w q _ fun vs u l r => by
    obtain ⟨a, h1, h2, h3⟩ := hx vs u.b r
    exact ⟨u, a, rfl, by rw [List.append_nil]; exact h1, h2, fun v x l2 r2 => k v x (l.trans l2) (h3 _ _ r2)⟩
/-- a sum of lists becomes a list of one's own -/
theorem go_catO {i : Nat} {as bs : List α} (ha : EE ta Γ (rL R) as) (hb : EE tb Γ (rL R) bs) (hl : as.length + bs.length ≤ 90000) (hi : i < Γ.s.length) (k : Go tz D (Γ.own i (ownL R (as ++ bs))) w0) : Go (tSeq (tAsg (tOp rCat ta tb) (gName i)) tz) D Γ w0 := fun σ w q =>
  ha σ w q.sat _ fun x u1 l1 r1 => hb σ u1 (q.sat.mono l1) _ fun y u l r2 => by
    obtain ⟨p, xs, rfl, hp, hx⟩ := (rL R).mono l.b r1
    obtain ⟨p1, ys, rfl, hp1, hy⟩ := r2
    refine ⟨p, p1, xs, ys, rfl, rfl, u.ex _ _ hp, u.ex _ _ hp1, Nat.le_of_lt (sz_lt (by rw [← hx.len, ← hy.len]; omega)), fun z hz => ?_⟩
    have q' := q.mono (l1.trans l)
    refine k (σ.set i (some (.ref z))) (u.own z (.lst (xs ++ ys)) (u.free hz)) ⟨sat_own q'.sat hi hz ⟨xs ++ ys, rfl, hx.app hy⟩, q'.le.trans (Le.own hz), q'.kb, fun j C p2 e e2 => ?_⟩
    have e' : some (i, _) = some (j, C) := e
    cases e'
    rw [List.getElem?_set_self (by rw [q.sat.len]; exact hi)] at e2
    cases e2
    cases v : w0.w.h z with
    | none => rfl
    | some o =>
      rw [q'.le.h _ _ v] at hz
      cases hz
end
end EM

set_option Elab.async false
set_option linter.all false
set_option maxRecDepth 100000
set_option maxHeartbeats 2000000
/-! EmD0: the program's defs and their scopes; calls of them. -/
namespace EM
open PySem PySem.Spec PyProof.Rows L2 Evl
def topS (i : Nat) : Stmt := PySem.Challenge.pw_evenmeet_k52_whole_by_all_rows.main.body.getD i (.Pass ⟨0, 0, 0, 0⟩)
abbrev st_degrees : Stmt := topS 1
theorem sc_degrees : FnScope ["layout", "point", "block"] ["layout"] (defScope st_degrees) := ⟨rfl, rfl, rfl, by decide +kernel, rfl, by decide +kernel, by decide +kernel⟩
abbrev st_count_of : Stmt := topS 2
theorem sc_count_of : FnScope ["layout", "points", "block", "point"] ["layout", "points"] (defScope st_count_of) := ⟨rfl, rfl, rfl, by decide +kernel, rfl, by decide +kernel, by decide +kernel⟩
abbrev st_pair_counts : Stmt := topS 5
theorem sc_pair_counts : FnScope ["layout", "points", "blocks", "found", "one", "other"] ["layout"] (defScope st_pair_counts) := ⟨rfl, rfl, rfl, by decide +kernel, rfl, by decide +kernel, by decide +kernel⟩
abbrev st_counts_by : Stmt := topS 6
theorem sc_counts_by : FnScope ["layout", "word", "points", "blocks", "block"] ["layout", "word"] (defScope st_counts_by) := ⟨rfl, rfl, rfl, by decide +kernel, rfl, by decide +kernel, by decide +kernel⟩
abbrev st_first_unlike : Stmt := topS 7
theorem sc_first_unlike : FnScope ["layout", "other", "word"] ["layout", "other"] (defScope st_first_unlike) := ⟨rfl, rfl, rfl, by decide +kernel, rfl, by decide +kernel, by decide +kernel⟩
abbrev st_traces : Stmt := topS 8
theorem sc_traces : FnScope ["layout", "images", "found", "block", "trace", "x"] ["layout", "images"] (defScope st_traces) := ⟨rfl, rfl, rfl, by decide +kernel, rfl, by decide +kernel, by decide +kernel⟩
abbrev st_parting_trace : Stmt := topS 9
theorem sc_parting_trace : FnScope ["layout", "other", "images", "ones", "others", "trace"] ["layout", "other", "images"] (defScope st_parting_trace) := ⟨rfl, rfl, rfl, by decide +kernel, rfl, by decide +kernel, by decide +kernel⟩
abbrev st_more_codes : Stmt := topS 10
theorem sc_more_codes : FnScope ["codes", "blocks", "point", "code", "block"] ["codes", "blocks", "point"] (defScope st_more_codes) := ⟨rfl, rfl, rfl, by decide +kernel, rfl, by decide +kernel, by decide +kernel⟩
abbrev st_row_on : Stmt := topS 11
theorem sc_row_on : FnScope ["layout", "other", "images", "ones", "others", "more", "image", "found"] ["layout", "other", "images", "ones", "others"] (defScope st_row_on) := ⟨rfl, rfl, rfl, by decide +kernel, rfl, by decide +kernel, by decide +kernel⟩
abbrev st_row_from : Stmt := topS 12
theorem sc_row_from : FnScope ["layout", "other", "images", "ones", "others", "point", "image", "block"] ["layout", "other", "images"] (defScope st_row_from) := ⟨rfl, rfl, rfl, by decide +kernel, rfl, by decide +kernel, by decide +kernel⟩
abbrev st_node_from : Stmt := topS 13
theorem sc_node_from : FnScope ["layout", "other", "images", "trace", "sons", "image"] ["layout", "other", "images"] (defScope st_node_from) := ⟨rfl, rfl, rfl, by decide +kernel, rfl, by decide +kernel, by decide +kernel⟩
abbrev st_alike : Stmt := topS 14
theorem sc_alike : FnScope ["layout", "other", "word", "row"] ["layout", "other"] (defScope st_alike) := ⟨rfl, rfl, rfl, by decide +kernel, rfl, by decide +kernel, by decide +kernel⟩
abbrev st_is_whole : Stmt := topS 16
theorem sc_is_whole : FnScope ["thing"] ["thing"] (defScope st_is_whole) := ⟨rfl, rfl, rfl, by decide +kernel, rfl, by decide +kernel, by decide +kernel⟩
abbrev st_is_row_of : Stmt := topS 17
theorem sc_is_row_of : FnScope ["thing", "many"] ["thing", "many"] (defScope st_is_row_of) := ⟨rfl, rfl, rfl, by decide +kernel, rfl, by decide +kernel, by decide +kernel⟩
abbrev st_trace_taken : Stmt := topS 18
theorem sc_trace_taken : FnScope ["layout", "other", "trace", "images", "ones", "point"] ["layout", "other", "trace", "images"] (defScope st_trace_taken) := ⟨rfl, rfl, rfl, by decide +kernel, rfl, by decide +kernel, by decide +kernel⟩
abbrev st_sons_taken : Stmt := topS 19
theorem sc_sons_taken : FnScope ["layout", "other", "sons", "images", "free", "image", "son"] ["layout", "other", "sons", "images"] (defScope st_sons_taken) := ⟨rfl, rfl, rfl, by decide +kernel, rfl, by decide +kernel, by decide +kernel⟩
abbrev st_node_taken : Stmt := topS 20
theorem sc_node_taken : FnScope ["layout", "other", "node", "images"] ["layout", "other", "node", "images"] (defScope st_node_taken) := ⟨rfl, rfl, rfl, by decide +kernel, rfl, by decide +kernel, by decide +kernel⟩
abbrev st_apart_taken : Stmt := topS 21
theorem sc_apart_taken : FnScope ["layout", "other", "paper", "word"] ["layout", "other", "paper"] (defScope st_apart_taken) := ⟨rfl, rfl, rfl, by decide +kernel, rfl, by decide +kernel, by decide +kernel⟩
abbrev st__law_cell : Stmt := topS 23
theorem sc__law_cell : FnScope ["_law_script", "_law_k", "_law_state", "_law_cell_here"] ["_law_script", "_law_k"] (defScope st__law_cell) := ⟨rfl, rfl, rfl, by decide +kernel, rfl, by decide +kernel, by decide +kernel⟩
abbrev st__law_numbers : Stmt := topS 24
theorem sc__law_numbers : FnScope ["_law_cell_here", "_law_many", "_law_found", "_law_state", "_law_digits", "_law_k"] ["_law_cell_here", "_law_many"] (defScope st__law_numbers) := ⟨rfl, rfl, rfl, by decide +kernel, rfl, by decide +kernel, by decide +kernel⟩
abbrev st__law_row : Stmt := topS 25
theorem sc__law_row : FnScope ["_law_xs", "_law_many", "_law_k", "_law_pair"] ["_law_xs", "_law_many"] (defScope st__law_row) := ⟨rfl, rfl, rfl, by decide +kernel, rfl, by decide +kernel, by decide +kernel⟩
abbrev st__law_mask : Stmt := topS 26
theorem sc__law_mask : FnScope ["_law_x", "_law_many", "_law_point"] ["_law_x", "_law_many"] (defScope st__law_mask) := ⟨rfl, rfl, rfl, by decide +kernel, rfl, by decide +kernel, by decide +kernel⟩
abbrev st__law_renamed : Stmt := topS 27
theorem sc__law_renamed : FnScope ["_law_layout", "_law_row_here", "_law_turn", "_law_many", "_law_blocks", "_law_block", "_law_point"] ["_law_layout", "_law_row_here", "_law_turn"] (defScope st__law_renamed) := ⟨rfl, rfl, rfl, by decide +kernel, rfl, by decide +kernel, by decide +kernel⟩
abbrev st__law_leads : Stmt := topS 29
theorem sc__law_leads : FnScope ["_law_layout", "_law_row_here", "_law_other", "_law_blocks", "_law_block", "_law_point"] ["_law_layout", "_law_row_here", "_law_other"] (defScope st__law_leads) := ⟨rfl, rfl, rfl, by decide +kernel, rfl, by decide +kernel, by decide +kernel⟩
abbrev st__law_all_rows : Stmt := topS 30
theorem sc__law_all_rows : FnScope ["_law_many", "_law_found", "_law_k", "_law_more", "_law_row_here", "_law_point"] ["_law_many"] (defScope st__law_all_rows) := ⟨rfl, rfl, rfl, by decide +kernel, rfl, by decide +kernel, by decide +kernel⟩
abbrev st__law_small : Stmt := topS 31
theorem sc__law_small : FnScope ["_law_cell_here", "_law_xs", "_law_many", "_law_k"] ["_law_cell_here"] (defScope st__law_small) := ⟨rfl, rfl, rfl, by decide +kernel, rfl, by decide +kernel, by decide +kernel⟩
abbrev st__law_two : Stmt := topS 32
theorem sc__law_two : FnScope ["_law_script", "_law_layout", "_law_xs", "_law_other", "_law_blocks", "_law_k", "_law_row_here", "_law_point"] ["_law_script"] (defScope st__law_two) := ⟨rfl, rfl, rfl, by decide +kernel, rfl, by decide +kernel, by decide +kernel⟩
abbrev st_law : Stmt := topS 33
theorem sc_law : FnScope ["_law_script", "_law_layout", "_law_other", "_law_due", "_law_told", "_law_papers", "_law_third", "_law_row_here", "_law_word", "_law_y", "_law_paper"] ["_law_script"] (defScope st_law) := ⟨rfl, rfl, rfl, by decide +kernel, rfl, by decide +kernel, by decide +kernel⟩
structure Blt (mg : Str → Option Value) : Prop where
  len : mg "len" = none
  range : mg "range" = none
  any : mg "any" = none
  all : mg "all" = none
  abs : mg "abs" = none
  max : mg "max" = none
  int : mg "int" = none
  bool : mg "bool" = none
  str : mg "str" = none
  tuple : mg "tuple" = none
  list : mg "list" = none
  set : mg "set" = none
  sorted : mg "sorted" = none
  isinstance : mg "isinstance" = none
  zip : mg "zip" = none
  enumerate : mg "enumerate" = none
/-- a def that stands in the module -/
structure Dn (K : PySem.W.Frag) (mg : Str → Option Value) (x : Str) (st : Stmt) (ps : List Str) where
  f : Addr
  fd : FuncData
  F : Fun K x x st f fd
  m : mg x = some (.ref f)
  b : Binds K fd ps []
/-- a def that keeps its promise -/
structure Cal (P : Program) (w : World) (K : PySem.W.Frag) (mg : Str → Option Value) (base : Heap) (k : Nat) (x : Str) (ps : List Str) (sp : Sp) where
  f : Addr
  fd : FuncData
  ok : FnOk P w K mg base CX0 k f fd ps sp
  m : mg x = some (.ref f)
  kp : PySem.W.keepIn K (.ref f) = true
  b : Binds K fd ps []
section
variable {P : Program} {w : World} {K : PySem.W.Frag} {mg : Str → Option Value} {base : Heap} {j k : Nat} {x : Str} {st : Stmt} {ps : List Str} {sp sp' : Sp}
def Dn.cal (D : Dn K mg x st ps) (h : FnOk P w K mg base CX0 k D.f D.fd ps sp) : Cal P w K mg base k x ps sp := ⟨D.f, D.fd, h, D.m, D.F.kp, D.b⟩
def Cal.up (C : Cal P w K mg base j x ps sp) (h : j ≤ k) : Cal P w K mg base k x ps sp := ⟨C.f, C.fd, C.ok.mono h, C.m, C.kp, C.b⟩
def E00 : XK := fun _ _ _ => False
theorem k_call {X : Cx} {e : Expr} {es : List Expr} {p pos : Pos} {t : TA} (C : Cal P w K mg base k x ps sp) (hr : Room k X.A) (hg : Gl X x) (ha : PA X (e :: es) t) (h1 : X.prog = P := by rfl) (h2 : X.w = w := by rfl) (h3 : X.K = K := by rfl) (h4 : X.mg = mg := by rfl) (h5 : X.base = base := by rfl)
    (hdb : (x == ("__debug__" : Str)) = false := by decide) (he : starEach (e :: es) X.env = (false, eval e X.env) :: starEach es X.env := by rfl) (hpl : (backTo pos (starEach es X.env)).any (·.1) = false := by rfl) :
    PE X (.Call (.Name x p) (e :: es) [] pos) (tCall sp [] E00 t) := by
  subst h1 h2 h3 h4 h5
  exact pe_call C.ok hr hg C.m C.kp C.b .nil pass0 ha hdb he hpl
theorem un4 {A : Around} (h : A.units + 64 < cLine) : A.units + 4 < cLine := by omega
theorem un1 {A : Around} (h : A.units + 64 < cLine) : A.units + 1 < cLine := by omega
end
abbrev rLay : Rel Lay := rP rInt (rT (rT rInt))
theorem clear1 {Γ : Ctx} {v : Nat} (h : Γ.s[v]? = some none) (ho : Γ.o = none) : Clear Γ [v] := fun u hu => by
  rw [List.mem_singleton] at hu
  subst hu
  exact ⟨fun m e => (by rw [h] at e; cases e), fun C e => (by rw [ho] at e; cases e)⟩
theorem clear2 {Γ : Ctx} {v u : Nat} (h : Γ.s[v]? = some none) (h' : Γ.s[u]? = some none) (ho : Γ.o = none) : Clear Γ [v, u] := fun x hx => by
  rcases List.mem_cons.mp hx with rfl | hx
  · exact clear1 h ho x (by simp)
  · exact clear1 h' ho x hx
theorem clear1o {Γ : Ctx} {v i : Nat} {C : Own} (h : Γ.s[v]? = some none) (ho : Γ.o = some (i, C)) (hn : (i == v) = false) : Clear Γ [v] := fun u hu => by
  rw [List.mem_singleton] at hu
  subst hu
  refine ⟨fun m e => (by rw [h] at e; cases e), fun C' e => ?_⟩
  rw [ho] at e
  cases e
  simp at hn
theorem mem1 {i : Nat} : ∀ j, j ∈ [i] → j ∈ [i] := fun _ h => h
theorem rng_le {n : Int} {m : Nat} (h : n ≤ (m : Int)) : (rng n).length ≤ m := by
  rw [rng_len]
  omega
end EM

set_option Elab.async false
set_option linter.all false
set_option maxRecDepth 100000
set_option maxHeartbeats 2000000
/-! EmD1: degrees, count_of, pair_counts, counts_by, first_unlike. -/
namespace EM
open PySem PySem.Spec PyProof.Rows L2 Evl
section
variable {P : Program} {w : World} {K : PySem.W.Frag} {mg : Str → Option Value} {base : Heap} {k : Nat} {aW : Addr}
-- slots of degrees: 0 layout, 1 point, 2 block
abbrev spDegrees : Sp := spec (fun M : Lay => [⟨rLay, M⟩]) GoodL (rL rInt) degreesM
theorem ok_degrees (D : Dn K mg "degrees" st_degrees ["layout"]) (B : Blt mg) : FnOk P w K mg base CX0 (k + 1) D.f D.fd ["layout"] spDegrees := by
  refine fn_spec D.F sc_degrees (fun _ => rfl) fun cdv A outer s H E hr => ?_
  have h64 := hr.units
  refine ⟨_, (pss_cons (ps_ret (pe_lc (own := [("point", 1)]) rfl sc_degrees.nd (pi_range1 (by rfl) B.range (pa_cons (pe_ix (k_ixT K) (pv 0) pe_int (fun _ _ => rfl)) pa_nil)) (blkOk_by (by kernel_rfl)) (fun _ _ _ _ _ => (pg_name (i := 1) sc_degrees.nd rfl (by first | exact Or.inl rfl | exact Or.inr rfl))) (fun _ _ _ _ _ => pts_nil) (fun _ _ _ _ _ => (pe_callB (k_len K) (by rfl) B.len (by decide +kernel) (pa_cons (pe_lc (own := [("block", 2)]) rfl sc_degrees.nd (k_iT K (pe_ix (k_ixT K) (pv 0) pe_int (fun _ _ => rfl))) (blkOk_by (by kernel_rfl)) (fun _ _ _ _ _ => (pg_name (i := 2) sc_degrees.nd rfl (by first | exact Or.inl rfl | exact Or.inr rfl))) (fun _ _ _ _ _ => (pts_one (pt_cmpR (k_in K) (pv 1) (pv 2) (by rfl)))) (fun _ _ _ _ _ => (pv 2))) pa_nil)))))
 pss_nil), fun M w0 Q gM ret => ?_⟩
  refine go_ret (EE.is (ee_lcA (S := rInt) (fun p => ((M.2.filter fun b => decide (p ∈ b)).length : Int)) (ei_range (ee_fst (ee_var rfl)) (by have := gM.hi; omega) (by have := gM.lo; omega)) (clear1 rfl rfl) mem1 (fun a _ => eg_name) (fun p _ =>
    EE.is (ee_lenL (ee_lc (S := rT rInt) (fun b => decide (p ∈ b)) id (ei_tup (ee_snd (ee_var rfl))) (clear1 rfl rfl) mem1 (fun a _ => eg_name) (fun b _ => et_B (ee_inT (ee_var rfl) (ee_var rfl))) (fun b _ _ => ee_var rfl) (by have := gM.few; omega))) (by rw [List.map_id])) (by rw [rng_len]; have := gM.hi; omega)) rfl) ret
-- slots of count_of: 0 layout, 1 points, 2 block, 3 point
abbrev spCountOf : Sp := spec (fun a : Lay × List Int => [⟨rLay, a.1⟩, ⟨rL rInt, a.2⟩]) (fun a => GoodL a.1 ∧ a.2.length ≤ 1000) rInt (fun a => countOf a.1 a.2)
theorem ok_count_of (D : Dn K mg "count_of" st_count_of ["layout", "points"]) (B : Blt mg) : FnOk P w K mg base CX0 (k + 1) D.f D.fd ["layout", "points"] spCountOf := by
  refine fn_spec D.F sc_count_of (fun _ => rfl) fun cdv A outer s H E hr => ?_
  have h64 := hr.units
  refine ⟨_, (pss_cons (ps_ret (pe_callB (k_len K) (by rfl) B.len (by decide +kernel) (pa_cons (pe_lc (own := [("block", 2)]) rfl sc_count_of.nd (k_iT K (pe_ix (k_ixT K) (pv 0) pe_int (fun _ _ => rfl))) (blkOk_by (by kernel_rfl)) (fun _ _ _ _ _ => (pg_name (i := 2) sc_count_of.nd rfl (by first | exact Or.inl rfl | exact Or.inr rfl))) (fun _ _ _ _ _ => (pts_one (pt_val (pe_callB (k_all K) (by rfl) B.all (by decide +kernel) (pa_cons (pe_lc (own := [("point", 3)]) rfl sc_count_of.nd (k_iL K (pv 1)) (blkOk_by (by kernel_rfl)) (fun _ _ _ _ _ => (pg_name (i := 3) sc_count_of.nd rfl (by first | exact Or.inl rfl | exact Or.inr rfl))) (fun _ _ _ _ _ => pts_nil) (fun _ _ _ _ _ => (pe_cmpR (k_in K) (pv 3) (pv 2) (by rfl)))) pa_nil))))) (fun _ _ _ _ _ => (pv 2))) pa_nil)))
 pss_nil), fun a w0 Q ⟨gM, hp⟩ ret => ?_⟩
  obtain ⟨M, ps⟩ := a
  refine go_ret (EE.is (ee_lenL (ee_lc (S := rT rInt) (fun b => (ps.map fun p => decide (p ∈ b)).all id) id (ei_tup (ee_snd (ee_var (a := M) rfl))) (clear1 rfl rfl) mem1 (fun a _ => eg_name) (fun b _ => et_test (ee_all (ee_lcA (S := rBool) (fun p => decide (p ∈ b)) (ei_list (ee_var (a := ps) rfl)) (clear1 rfl rfl) mem1 (fun a _ => eg_name) (fun p _ => ee_inT (ee_var rfl) (ee_var rfl)) (Nat.le_trans hp (by omega)))))
    (fun b _ _ => ee_var rfl) (by have := gM.few; show M.2.length ≤ _; have : M.2.length ≤ 6 := this; omega))) (by rw [List.map_id]; rfl)) ret
-- slots of pair_counts: 0 layout, 1 points, 2 blocks, 3 found, 4 one, 5 other
theorem go_eqO {α : Type} {tt : TS} {D : Ends} {s : List (Option Imm)} {i : Nat} {R : Rel α} {as bs : List α} {w0 : Ent} (e : as = bs) (k : Go tt D ⟨s, some (i, ownL R bs)⟩ w0) : Go tt D ⟨s, some (i, ownL R as)⟩ w0 := e ▸ k
theorem keepO {Γ Γ' : Ctx} {i j : Nat} {C C' : Own} (h : Γ.o = some (i, C)) (h' : Γ'.o = some (i, C')) (n : (i == j) = false) : Keep Γ Γ' [j] := fun u D e => by
  rw [h'] at e
  cases e
  exact ⟨fun z => by
    rw [List.mem_singleton] at z
    simp [z] at n, C, h⟩
theorem flat_len {α β : Type} {f : α → List β} {c : Nat} : ∀ {l : List α}, (∀ a ∈ l, (f a).length ≤ c) → (l.flatMap f).length ≤ c * l.length
  | [], _ => by simp
  | a :: l, h => by
    rw [List.flatMap_cons, List.length_append, List.length_cons]
    have h1 := h a (.head _)
    have h2 := flat_len (l := l) fun b hb => h b (.tail _ hb)
    rw [Nat.mul_succ]
    omega
theorem map_take_at {α β : Type} {f : α → β} {l : List α} {i : Nat} {a : α} (h : l[i]? = some a) : (l.take (i + 1)).map f = (l.take i).map f ++ [f a] := by rw [take_succ_at h, List.map_append]; rfl
theorem flat_take_at {α β : Type} {f : α → List β} {l : List α} {i : Nat} {a : α} (h : l[i]? = some a) : (l.take (i + 1)).flatMap f = (l.take i).flatMap f ++ f a := by rw [take_succ_at h, List.flatMap_append]; simp
def flat1 (M : Lay) (i : Nat) : List Int := ((rng M.1).take i).flatMap fun a => (rng2 (a + 1) M.1).map fun b => countOf M [a, b]
def flat2 (M : Lay) (a : Int) (j : Nat) : List Int := ((rng2 (a + 1) M.1).take j).map fun b => countOf M [a, b]
theorem flat1_len {M : Lay} (g : GoodL M) (i : Nat) : (flat1 M i).length ≤ 25 := by
  have h1 : ((rng M.1).take i).length ≤ 5 := by
    rw [List.length_take, rng_len]
    have := g.hi
    omega
  have h2 := flat_len (c := 5) (f := fun a => (rng2 (a + 1) M.1).map fun b => countOf M [a, b]) (l := (rng M.1).take i) fun a ha => by
    have := mem_rng.mp (List.mem_of_mem_take ha)
    rw [List.length_map, rng2_len]
    have := g.hi
    omega
  unfold flat1
  omega
abbrev spPairs : Sp := spec (fun M : Lay => [⟨rLay, M⟩]) GoodL (rL rInt) pairsM
theorem ok_pair_counts (D : Dn K mg "pair_counts" st_pair_counts ["layout"]) (B : Blt mg) (C_count_of : Cal P w K mg base k "count_of" ["layout", "points"] spCountOf) : FnOk P w K mg base CX0 (k + 1) D.f D.fd ["layout"] spPairs := by
  refine fn_spec D.F sc_pair_counts (fun _ => rfl) fun cdv A outer s H E hr => ?_
  have h64 := hr.units
  refine ⟨_, (pss_cons (ps_asg (pv 0) (k_gT K (n := 2) (pgs_cons (pg_name (i := 1) sc_pair_counts.nd rfl (Or.inl rfl)) (pgs_cons (pg_name (i := 2) sc_pair_counts.nd rfl (Or.inl rfl)) pgs_nil))))
 (pss_cons (ps_set (i := 3) sc_pair_counts.nd rfl (Or.inl rfl) (pe_lst pa_nil))
 (pss_cons (ps_for PassesOwn.never rfl (pi_range1 (by rfl) B.range (pa_cons (pv 1) pa_nil)) (pg_name (i := 4) sc_pair_counts.nd rfl (Or.inl rfl))
(pss_cons (ps_for PassesOwn.never rfl (pi_range2 (by rfl) B.range (pa_cons (pe_op op_add (pv 4) pe_int) (pa_cons (pv 1) pa_nil))) (pg_name (i := 5) sc_pair_counts.nd rfl (Or.inl rfl))
(pss_cons (ps_expr (k_bm K PySem.F.plainAttrs_list PySem.F.slot_list_append PySem.F.type_list_append mt_append (pv 3) (pa_cons (k_call C_count_of hr (by rfl) (pa_cons (pv 0) (pa_cons (pe_lst (pa_cons (pv 4) (pa_cons (pv 5) pa_nil))) pa_nil))) pa_nil)))
 pss_nil))
 pss_nil))
 (pss_cons (ps_ret (pe_callB (k_sortI K) (by rfl) B.sorted (by decide +kernel) (pa_cons (pv 3) pa_nil)))
 pss_nil)))), fun M w0 Q gM ret => ?_⟩
  have hlo : 1 ≤ M.1 := gM.lo
  have hhi : M.1 ≤ 5 := gM.hi
  refine go_tgt (ee_var (a := M) rfl) eg_pair (Keep.none rfl) ?_
  refine go_ownL rInt (by show 3 < 6; decide) ?_
  refine go_for (as := rng M.1) (fun i => ⟨[some ⟨rLay, M⟩, some ⟨rInt, M.1⟩, some ⟨rT (rT rInt), M.2⟩, none, none, none], some (3, ownL rInt (flat1 M i))⟩) (fun _ => True) (fun i a => ⟨[some ⟨rLay, M⟩, some ⟨rInt, M.1⟩, some ⟨rT (rT rInt), M.2⟩, none, some ⟨rInt, a⟩, none], some (3, ownL rInt (flat1 M i))⟩)
    (ei_range (ee_var rfl) (by omega) (by omega)) trivial (fun _ _ _ => eg_name) (fun _ _ => keepO rfl rfl rfl) (fun B2 i a ha _ => ?_) (fun _ => ?_)
  · have ia := mem_rng.mp (List.mem_of_getElem? ha)
    refine go_eqO (bs := flat1 M i ++ flat2 M a 0) (List.append_nil _).symm ?_
    refine go_for (as := rng2 (a + 1) M.1) (fun j => ⟨[some ⟨rLay, M⟩, some ⟨rInt, M.1⟩, some ⟨rT (rT rInt), M.2⟩, none, some ⟨rInt, a⟩, none], some (3, ownL rInt (flat1 M i ++ flat2 M a j))⟩) (fun _ => True) (fun j b => ⟨[some ⟨rLay, M⟩, some ⟨rInt, M.1⟩, some ⟨rT (rT rInt), M.2⟩, none, some ⟨rInt, a⟩, some ⟨rInt, b⟩], some (3, ownL rInt (flat1 M i ++ flat2 M a j))⟩)
      (ei_range2 (ee_I0 (ee_var rfl) ee_int fun _ => rfl) (ee_var rfl) (by omega)) trivial (fun _ _ _ => eg_name) (fun _ _ => keepO rfl rfl rfl) (fun B3 j b hb _ => ?_) (fun _ => ?_)
    · refine go_append rfl (ee_call (M, [a, b]) (ea_cons (ee_var rfl) (ea_cons (ee_lst (eas_cons (ee_var rfl) (eas_cons (ee_var rfl) eas_nil)) (by show 2 ≤ 100000; decide)) ea_nil)) ⟨gM, by show 2 ≤ 1000; decide⟩) ?_ ?_
      · have := flat1_len gM i
        have h2 : (flat2 M a j).length ≤ 5 := by
          unfold flat2
          rw [List.length_map, List.length_take, rng2_len]
          omega
        rw [List.length_append]
        omega
      · refine go_eqO (bs := flat1 M i ++ flat2 M a (j + 1)) (by rw [List.append_assoc]; unfold flat2; rw [map_take_at hb]) ?_
        exact go_turn trivial (.keep (.keep (.keep (.keep (.keep (.drop .nil)))))) rfl
    · refine go_eqO (bs := flat1 M (i + 1)) (by unfold flat1 flat2; rw [flat_take_at ha, List.take_length]) ?_
      exact go_turn trivial (.keep (.keep (.keep (.keep (.drop (.keep .nil)))))) rfl
  · refine go_fixL rfl (by show 3 < 6; decide) ?_
    refine go_ret (EE.is (ee_sortI (ee_var rfl)) ?_) ret
    unfold pairsM flat1
    rw [List.take_length]
-- slots of counts_by: 0 layout, 1 word, 2 points, 3 blocks, 4 block
theorem shaped_counts (M : Lay) (w : Str) : SeqAt.shaped (countsBy M w) = true := by
  unfold countsBy
  split
  · exact shaped_I _
  split
  · exact shaped_I _
  split
  · exact shaped_LI _
  split
  · exact shaped_LI _
  · exact shaped_LI _
abbrev spCounts (K : PySem.W.Frag) : Sp := spec (fun a : Lay × Str => [⟨rLay, a.1⟩, ⟨rStr, a.2⟩]) (fun a => GoodL a.1) (rD K) (fun a => countsBy a.1 a.2)
theorem ok_counts_by (D : Dn K mg "counts_by" st_counts_by ["layout", "word"]) (B : Blt mg) (C_degrees : Cal P w K mg base k "degrees" ["layout"] spDegrees) (C_pair_counts : Cal P w K mg base k "pair_counts" ["layout"] spPairs) : FnOk P w K mg base CX0 (k + 1) D.f D.fd ["layout", "word"] (spCounts K) := by
  refine fn_spec D.F sc_counts_by (fun _ => rfl) fun cdv A outer s H E hr => ?_
  have h64 := hr.units
  refine ⟨_, (pss_cons (ps_asg (pv 0) (k_gT K (n := 2) (pgs_cons (pg_name (i := 2) sc_counts_by.nd rfl (Or.inl rfl)) (pgs_cons (pg_name (i := 3) sc_counts_by.nd rfl (Or.inl rfl)) pgs_nil))))
 (pss_cons (ps_if (pt_cmpR op_eq (pv 1) pe_str (nomark _))
(pss_cons (ps_ret (pv 2))
 pss_nil)
pss_nil)
 (pss_cons (ps_if (pt_cmpR op_eq (pv 1) pe_str (nomark _))
(pss_cons (ps_ret (pe_callB (k_len K) (by rfl) B.len (by decide +kernel) (pa_cons (pv 3) pa_nil)))
 pss_nil)
pss_nil)
 (pss_cons (ps_if (pt_cmpR op_eq (pv 1) pe_str (nomark _))
(pss_cons (ps_ret (pe_callB (k_sortI K) (by rfl) B.sorted (by decide +kernel) (pa_cons (pe_lc (own := [("block", 4)]) rfl sc_counts_by.nd (k_iT K (pv 3)) (blkOk_by (by kernel_rfl)) (fun _ _ _ _ _ => (pg_name (i := 4) sc_counts_by.nd rfl (by first | exact Or.inl rfl | exact Or.inr rfl))) (fun _ _ _ _ _ => pts_nil) (fun _ _ _ _ _ => (pe_callB (k_len K) (by rfl) B.len (by decide +kernel) (pa_cons (pv 4) pa_nil)))) pa_nil)))
 pss_nil)
pss_nil)
 (pss_cons (ps_if (pt_cmpR op_eq (pv 1) pe_str (nomark _))
(pss_cons (ps_ret (pe_callB (k_sortI K) (by rfl) B.sorted (by decide +kernel) (pa_cons (k_call C_degrees hr (by rfl) (pa_cons (pv 0) pa_nil)) pa_nil)))
 pss_nil)
pss_nil)
 (pss_cons (ps_ret (k_call C_pair_counts hr (by rfl) (pa_cons (pv 0) pa_nil)))
 pss_nil)))))), fun a w0 Q gM ret => ?_⟩
  obtain ⟨M, wd⟩ := a
  have gM : GoodL M := gM
  have hlo : 1 ≤ M.1 := gM.lo
  have hhi : M.1 ≤ 5 := gM.hi
  have hfew : M.2.length ≤ 6 := gM.few
  refine go_tgt (ee_var (a := M) rfl) eg_pair (Keep.none rfl) ?_
  refine go_when (et_B (ee_eqS (ee_var (a := wd) rfl) ee_str)) (fun h1 => ?_) (fun h1 => ?_)
  · refine go_ret (EE.is (EE.imp (S := rD K) (b := .int M.1) (ee_var (R := rInt) rfl) fun _ _ r => dp_int _ _ r) ?_) ret
    show _ = countsBy M wd
    rw [of_decide_eq_true h1]
    rfl
  have n1 := of_decide_eq_false h1
  refine go_when (et_B (ee_eqS (ee_var (a := wd) rfl) ee_str)) (fun h1 => ?_) (fun h1 => ?_)
  · refine go_ret (EE.is (EE.imp (S := rD K) (b := .int (M.2.length : Int)) (ee_lenT (ee_var (a := M.2) rfl)) fun _ _ r => dp_int _ _ r) ?_) ret
    show _ = countsBy M wd
    rw [of_decide_eq_true h1]
    rfl
  have n2 := of_decide_eq_false h1
  refine go_when (et_B (ee_eqS (ee_var (a := wd) rfl) ee_str)) (fun h1 => ?_) (fun h1 => ?_)
  · refine go_ret (EE.is (EE.imp (S := rD K) (b := .list ((sizesM M).map .int)) (ee_sortI (ee_lcA (S := rInt) (fun b : Blk => (b.length : Int)) (ei_tup (ee_var (a := M.2) rfl)) (clear1 rfl rfl) mem1 (fun a _ => eg_name) (fun b _ => ee_lenT (ee_var rfl)) (by omega))) fun _ _ r => dp_L dp_int r) ?_) ret
    show _ = countsBy M wd
    rw [of_decide_eq_true h1]
    rfl
  have n3 := of_decide_eq_false h1
  refine go_when (et_B (ee_eqS (ee_var (a := wd) rfl) ee_str)) (fun h1 => ?_) (fun h1 => ?_)
  · refine go_ret (EE.is (EE.imp (S := rD K) (b := .list ((isort (degreesM M)).map .int)) (ee_sortI (ee_call M (ea_cons (ee_var rfl) ea_nil) gM)) fun _ _ r => dp_L dp_int r) ?_) ret
    show _ = countsBy M wd
    rw [of_decide_eq_true h1]
    rfl
  have n4 := of_decide_eq_false h1
  refine go_ret (EE.is (EE.imp (S := rD K) (b := .list ((pairsM M).map .int)) (ee_call M (ea_cons (ee_var rfl) ea_nil) gM) fun _ _ r => dp_L dp_int r) ?_) ret
  show _ = countsBy M wd
  unfold countsBy
  rw [if_neg n1, if_neg n2, if_neg n3, if_neg n4]
-- slots of first_unlike: 0 layout, 1 other, 2 word
theorem find_at {α : Type} {f : α → Bool} : ∀ {l : List α} {i : Nat} {a : α}, (l.take i).find? f = none → l[i]? = some a → f a = true → l.find? f = some a
  | [], _, _, _, h, _ => by simp at h
  | x :: l, 0, a, _, h, hf => by
    have e := Option.some.inj (show some x = some a from h)
    rw [e, List.find?_cons, hf]
  | x :: l, i + 1, a, h1, h, hf => by
    rw [List.take_succ_cons, List.find?_cons] at h1
    rw [List.find?_cons]
    cases hx : f x with
    | true => rw [hx] at h1; cases h1
    | false =>
      rw [hx] at h1
      exact find_at h1 h hf
theorem find_on {α : Type} {f : α → Bool} {l : List α} {i : Nat} {a : α} (h1 : (l.take i).find? f = none) (h : l[i]? = some a) (hf : f a = false) : (l.take (i + 1)).find? f = none := by
  rw [take_succ_at h, List.find?_append, h1]
  simp [hf]
def unlikeM (M N : Lay) : Option Str := WORDS.find? fun w => !PyData.eqv (countsBy M w) (countsBy N w)
abbrev spUnlike : Sp := spec (fun a : Lay × Lay => [⟨rLay, a.1⟩, ⟨rLay, a.2⟩]) (fun a => GoodL a.1 ∧ GoodL a.2) (rOpt rStr) (fun a => unlikeM a.1 a.2)
theorem ok_first_unlike (D : Dn K mg "first_unlike" st_first_unlike ["layout", "other"]) (B : Blt mg) (gW : mg "WORDS" = some (.ref aW)) (hW : ∀ H, SqT K H aW (WORDS.map V.str)) (C_counts_by : Cal P w K mg base k "counts_by" ["layout", "word"] (spCounts K)) : FnOk P w K mg base CX0 (k + 1) D.f D.fd ["layout", "other"] spUnlike := by
  refine fn_spec D.F sc_first_unlike (fun _ => rfl) fun cdv A outer s H E hr => ?_
  have h64 := hr.units
  refine ⟨_, (pss_cons (ps_for PassesOwn.never rfl (k_iT K (pe_glob (v := .ref aW) (by rfl) gW rfl)) (pg_name (i := 2) sc_first_unlike.nd rfl (Or.inl rfl))
(pss_cons (ps_if (pt_cmpR (k_neD K h64) (k_call C_counts_by hr (by rfl) (pa_cons (pv 0) (pa_cons (pv 2) pa_nil))) (k_call C_counts_by hr (by rfl) (pa_cons (pv 1) (pa_cons (pv 2) pa_nil))) (nomark _))
(pss_cons (ps_ret (pv 2))
 pss_nil)
pss_nil)
 pss_nil))
 (pss_cons (ps_ret pe_non)
 pss_nil)), fun a w0 Q ⟨gM, gN⟩ ret => ?_⟩
  obtain ⟨M, N⟩ := a
  have gM : GoodL M := gM
  have gN : GoodL N := gN
  refine go_for (as := WORDS) (fun i => ⟨[some ⟨rLay, M⟩, some ⟨rLay, N⟩, none], none⟩) (fun i => (WORDS.take i).find? (fun w => !PyData.eqv (countsBy M w) (countsBy N w)) = none) (fun i a => ⟨[some ⟨rLay, M⟩, some ⟨rLay, N⟩, some ⟨rStr, a⟩], none⟩)
    (ei_words (ee_c (R := rWords K) fun H => ⟨aW, rfl, hW H⟩)) rfl (fun _ _ _ => eg_name) (fun _ _ => Keep.none rfl) (fun B2 i a ha hp => ?_) (fun hp => ?_)
  · refine go_when (et_B (ee_neDat (ee_call (M, a) (ea_cons (ee_var rfl) (ea_cons (ee_var rfl) ea_nil)) gM) (ee_call (N, a) (ea_cons (ee_var rfl) (ea_cons (ee_var rfl) ea_nil)) gN) (shaped_counts _ _) (shaped_counts _ _))) (fun h => ?_) (fun h => ?_)
    · refine go_ret (EE.is (EE.imp (S := rOpt rStr) (b := some a) (ee_var (R := rStr) rfl) fun _ _ r => r) ?_) ret
      exact (find_at hp ha h).symm
    · exact go_turn (find_on hp ha h) (.keep (.keep (.drop .nil))) rfl
  · refine go_ret (EE.is ee_non ?_) ret
    exact hp.symm
end
end EM

set_option Elab.async false
set_option linter.all false
set_option maxRecDepth 100000
set_option maxHeartbeats 2000000
/-! EmD2: traces, parting_trace, more_codes, row_on, row_from, node_from, alike. -/
namespace EM
open PySem PySem.Spec PyProof.Rows L2 Evl
section
variable {P : Program} {w : World} {K : PySem.W.Frag} {mg : Str → Option Value} {base : Heap} {k : Nat} {aW : Addr}
-- slots of traces: 0 layout, 1 images, 2 found, 3 block, 4 trace, 5 x
abbrev spTraces : Sp := spec (fun a : Lay × List Int => [⟨rLay, a.1⟩, ⟨rL rInt, a.2⟩]) (fun a => a.1.2.length ≤ 6 ∧ a.2.length ≤ 1000) rDc (fun a => traces a.1 a.2)
theorem ok_traces (D : Dn K mg "traces" st_traces ["layout", "images"]) (B : Blt mg) : FnOk P w K mg base CX0 (k + 1) D.f D.fd ["layout", "images"] spTraces := by
  refine fn_spec D.F sc_traces (fun _ => rfl) fun cdv A outer s H E hr => ?_
  have h64 := hr.units
  have h1 := un1 h64
  refine ⟨_, (pss_cons (ps_set (i := 2) sc_traces.nd rfl (Or.inl rfl) pe_dnewT)
 (pss_cons (ps_for PassesOwn.never rfl (k_iT K (pe_ix (k_ixT K) (pv 0) pe_int (fun _ _ => rfl))) (pg_name (i := 3) sc_traces.nd rfl (Or.inr rfl))
(pss_cons (ps_set (i := 4) sc_traces.nd rfl (Or.inl rfl) (pe_callTy (k_tupof K) (by rfl) B.tuple (by decide +kernel) (pa_cons (pe_lc (own := [("x", 5)]) rfl sc_traces.nd (pi_range1 (by rfl) B.range (pa_cons (pe_callB (k_len K) (by rfl) B.len (by decide +kernel) (pa_cons (pv 1) pa_nil)) pa_nil)) (blkOk_by (by kernel_rfl)) (fun _ _ _ _ _ => (pg_name (i := 5) sc_traces.nd rfl (by first | exact Or.inl rfl | exact Or.inr rfl))) (fun _ _ _ _ _ => (pts_one (pt_cmpR (k_in K) (pe_ix (k_ixL K) (pv 1) (pv 5) (fun _ _ => rfl)) (pv 3) (by rfl)))) (fun _ _ _ _ _ => (pv 5))) pa_nil)))
 (pss_cons (ps_dput h1 (pv 2) (pv 4) (pe_op op_add (k_get h1 (pv 2) (pv 4) pe_int) pe_int) rfl)
 pss_nil)))
 (pss_cons (ps_ret (pv 2))
 pss_nil))), fun a w0 Q ⟨hM, hp⟩ ret => ?_⟩
  obtain ⟨M, im⟩ := a
  have hM : M.2.length ≤ 6 := hM
  have hp : im.length ≤ 1000 := hp
  refine go_ownD (by show 2 < 6; decide) ?_
  refine go_for (as := M.2) (fun i => ⟨[some ⟨rLay, M⟩, some ⟨rL rInt, im⟩, none, none, none, none], some (2, ownDc ((M.2.take i).map (trace im)))⟩) (fun _ => True) (fun i b => ⟨[some ⟨rLay, M⟩, some ⟨rL rInt, im⟩, none, some ⟨rT rInt, b⟩, none, none], some (2, ownDc ((M.2.take i).map (trace im)))⟩)
    (ei_tup (ee_snd (ee_var rfl))) trivial (fun _ _ _ => eg_name) (fun _ _ => keepO rfl rfl rfl) (fun B2 i b hb _ => ?_) (fun _ => ?_)
  · refine go_asg (a := trace im b) (R := rT rInt) (EE.is (ee_tupL (ee_lc (S := rInt) (fun x : Int => decide (im.getD x.toNat 0 ∈ b)) id (ei_range (ee_lenL (ee_var (a := im) rfl)) (by omega) (by omega)) (clear1o rfl rfl rfl) mem1 (fun a _ => eg_name)
      (fun x hx => et_B (ee_inT (ee_ixL (ee_var (a := im) rfl) (ee_var (a := x) rfl) (mem_rng.mp hx).1 (a := im.getD x.toNat 0) ?_) (ee_var rfl))) (fun x _ _ => ee_var rfl) (by rw [rng_len]; omega))) (by rw [List.map_id]; rfl)) ?_
    · have := mem_rng.mp hx
      have hl : x.toNat < im.length := by omega
      rw [List.getElem?_eq_getElem hl, List.getD_eq_getElem?_getD, List.getElem?_eq_getElem hl]
      rfl
    · refine go_count (trs := (M.2.take i).map (trace im)) (t := trace im b) rfl rfl (by rw [List.length_map, List.length_take]; omega) ?_
      refine go_eqC (C' := ownDc ((M.2.take (i + 1)).map (trace im))) (by rw [map_take_at hb]) ?_
      exact go_turn trivial (.keep (.keep (.keep (.drop (.drop (.keep .nil)))))) rfl
  · refine go_fixD (trs := (M.2.take M.2.length).map (trace im)) rfl (by show 2 < 6; decide) ?_
    refine go_ret (EE.is (ee_var rfl) ?_) ret
    rw [List.take_length]
    rfl
-- slots of parting_trace: 0 layout, 1 other, 2 images, 3 ones, 4 others, 5 trace
def partF (a : Lay × Lay × List Int) : Option (List Int) → Prop
  | none => ∀ t, t ∈ traces a.1 (rng a.2.2.length) ∨ t ∈ traces a.2.1 a.2.2 → (traces a.1 (rng a.2.2.length)).count t = (traces a.2.1 a.2.2).count t
  | some t => (t ∈ traces a.1 (rng a.2.2.length) ∨ t ∈ traces a.2.1 a.2.2) ∧ (((traces a.1 (rng a.2.2.length)).count t : Nat) : Int) ≠ (((traces a.2.1 a.2.2).count t : Nat) : Int)
abbrev ar3 (a : Lay × Lay × List Int) : List Imm := [⟨rLay, a.1⟩, ⟨rLay, a.2.1⟩, ⟨rL rInt, a.2.2⟩]
abbrev spPart : Sp := spec ar3 (fun a => a.1.2.length ≤ 6 ∧ a.2.1.2.length ≤ 6 ∧ a.2.2.length ≤ 1000) (rBy partF (rOpt (rT rInt))) id
theorem ok_parting_trace (D : Dn K mg "parting_trace" st_parting_trace ["layout", "other", "images"]) (B : Blt mg) (C_traces : Cal P w K mg base k "traces" ["layout", "images"] spTraces) : FnOk P w K mg base CX0 (k + 1) D.f D.fd ["layout", "other", "images"] spPart := by
  refine fn_spec D.F sc_parting_trace (fun _ => rfl) fun cdv A outer s H E hr => ?_
  have h64 := hr.units
  have h1 := un1 h64
  have h4 := un4 h64
  refine ⟨_, (pss_cons (ps_set (i := 3) sc_parting_trace.nd rfl (Or.inl rfl) (k_call C_traces hr (by rfl) (pa_cons (pv 0) (pa_cons (pe_listRg rfl (by rfl) B.list (prg_1 (by rfl) B.range (pe_callB (k_len K) (by rfl) B.len (by decide +kernel) (pa_cons (pv 2) pa_nil)))) pa_nil))))
 (pss_cons (ps_set (i := 4) sc_parting_trace.nd rfl (Or.inl rfl) (k_call C_traces hr (by rfl) (pa_cons (pv 1) (pa_cons (pv 2) pa_nil))))
 (pss_cons (ps_for PassesOwn.never rfl (k_iL K (pe_callB (k_sortSet K P w h4) (by rfl) B.sorted (by decide +kernel) (pa_cons (pe_callTy (k_setT K P w h64) (by rfl) B.set (by decide +kernel) (pa_cons (pe_op op_cat (pe_callTy k_listD (by rfl) B.list (by decide +kernel) (pa_cons (pv 3) pa_nil)) (pe_callTy k_listD (by rfl) B.list (by decide +kernel) (pa_cons (pv 4) pa_nil))) pa_nil)) pa_nil))) (pg_name (i := 5) sc_parting_trace.nd rfl (Or.inl rfl))
(pss_cons (ps_if (pt_cmpR op_ne (k_get h1 (pv 3) (pv 5) pe_int) (k_get h1 (pv 4) (pv 5) pe_int) (nomark _))
(pss_cons (ps_ret (pv 5))
 pss_nil)
pss_nil)
 pss_nil))
 (pss_cons (ps_ret pe_non)
 pss_nil)))), fun a w0 Q ⟨hM, hN, hp⟩ ret => ?_⟩
  obtain ⟨M, N, im⟩ := a
  have hM : M.2.length ≤ 6 := hM
  have hN : N.2.length ≤ 6 := hN
  have hp : im.length ≤ 1000 := hp
  refine go_asg (R := rDc) (a := traces M (rng im.length)) (ee_call (M, rng im.length) (ea_cons (ee_var rfl) (ea_cons (ee_listRg (ee_lenL (ee_var (a := im) rfl)) (by omega) (by omega)) ea_nil)) ⟨hM, by show (rng im.length).length ≤ _; rw [rng_len]; omega⟩) ?_
  refine go_asg (R := rDc) (a := traces N im) (ee_call (N, im) (ea_cons (ee_var rfl) (ea_cons (ee_var rfl) ea_nil)) ⟨hN, hp⟩) ?_
  refine go_forB (R := rT rInt) (F := fun ts => ∀ t, t ∈ ts ↔ t ∈ traces M (rng im.length) ∨ t ∈ traces N im) ?_ fun ts ht => ⟨fun i => ⟨[some ⟨rLay, M⟩, some ⟨rLay, N⟩, some ⟨rL rInt, im⟩, some ⟨rDc, traces M (rng im.length)⟩, some ⟨rDc, traces N im⟩, none], none⟩,
    fun i => ∀ t, t ∈ ts.take i → (traces M (rng im.length)).count t = (traces N im).count t, fun i t => ⟨[some ⟨rLay, M⟩, some ⟨rLay, N⟩, some ⟨rL rInt, im⟩, some ⟨rDc, traces M (rng im.length)⟩, some ⟨rDc, traces N im⟩, some ⟨rT rInt, t⟩], none⟩, [5], rfl, (by intro t h; cases h), fun _ _ _ => eg_name, fun _ _ => Keep.none rfl, fun B2 i t hti hpi => ?_, fun hpi => ?_⟩
  · intro σ w1 q RR kk
    refine eib_list (ee_sortSetB (ee_catB (ee_listD (ee_var (a := traces M (rng im.length)) rfl)) (ee_listD (ee_var (a := traces N im) rfl)) ?_) ?_) σ w1 q RR fun as J u fa l iw => kk as J u ?_ l iw
    · rintro as bs ⟨_, h1⟩ ⟨_, h2⟩
      have l1 : (traces M (rng im.length)).length ≤ 6 := by unfold traces; rw [List.length_map]; exact hM
      have l2 : (traces N im).length ≤ 6 := by unfold traces; rw [List.length_map]; exact hN
      have h1 : as.length ≤ (traces M (rng im.length)).length := h1
      have h2 : bs.length ≤ (traces N im).length := h2
      omega
    · rintro cs ⟨as, bs, ⟨_, h1⟩, ⟨_, h2⟩, rfl⟩
      have l1 : (traces M (rng im.length)).length ≤ 6 := by unfold traces; rw [List.length_map]; exact hM
      have l2 : (traces N im).length ≤ 6 := by unfold traces; rw [List.length_map]; exact hN
      have h1 : as.length ≤ (traces M (rng im.length)).length := h1
      have h2 : bs.length ≤ (traces N im).length := h2
      rw [List.length_append]
      omega
    · obtain ⟨cs, ⟨xs, ys, ⟨h1, _⟩, ⟨h2, _⟩, rfl⟩, h3, _⟩ := fa
      intro t
      rw [h3, List.mem_append, h1, h2]
  · refine go_when (et_B (ee_neI (ee_get (trs := traces M (rng im.length)) (t := t) (ee_var rfl) (ee_var rfl)) (ee_get (trs := traces N im) (t := t) (ee_var rfl) (ee_var rfl)))) (fun h => ?_) (fun h => ?_)
    · refine go_ret (ee_by (ee_opt (ee_var (a := t) rfl)) ?_) ret
      exact ⟨(ht t).mp (List.mem_of_getElem? hti), by simpa using h⟩
    · refine go_turn (fun t' h' => ?_) (.keep (.keep (.keep (.keep (.keep (.drop .nil)))))) rfl
      rw [take_succ_at hti] at h'
      rcases List.mem_append.mp h' with h' | h'
      · exact hpi t' h'
      · rw [List.mem_singleton] at h'
        subst h'
        have : (((traces M (rng im.length)).count t' : Nat) : Int) = (((traces N im).count t' : Nat) : Int) := by simpa using h
        omega
  · refine go_ret (ee_by ee_non ?_) ret
    intro t h
    dsimp only at hpi
    rw [List.take_length] at hpi
    exact hpi t ((ht t).mpr h)
-- slots of more_codes: 0 codes, 1 blocks, 2 point, 3 code, 4 block
abbrev spMore : Sp := spec (fun a : List Int × List Blk × Int => [⟨rL rInt, a.1⟩, ⟨rT (rT rInt), a.2.1⟩, ⟨rInt, a.2.2⟩]) (fun a => a.1.length ≤ 6) (rL rInt) (fun a => moreCodes a.1 a.2.1 a.2.2)
theorem ok_more_codes (D : Dn K mg "more_codes" st_more_codes ["codes", "blocks", "point"]) (B : Blt mg) : FnOk P w K mg base CX0 (k + 1) D.f D.fd ["codes", "blocks", "point"] spMore := by
  refine fn_spec D.F sc_more_codes (fun _ => rfl) fun cdv A outer s H E hr => ?_
  have h64 := hr.units
  refine ⟨_, (pss_cons (ps_ret (pe_lc (own := [("code", 3), ("block", 4)]) rfl sc_more_codes.nd (pi_zipLT K (by rfl) B.zip (pa_cons (pv 0) (pa_cons (pv 1) pa_nil))) (blkOk_by (by kernel_rfl)) (fun _ _ _ _ _ => (k_gT K (n := 2) (pgs_cons (pg_name (i := 3) sc_more_codes.nd rfl (by first | exact Or.inl rfl | exact Or.inr rfl)) (pgs_cons (pg_name (i := 4) sc_more_codes.nd rfl (by first | exact Or.inl rfl | exact Or.inr rfl)) pgs_nil)))) (fun _ _ _ _ _ => pts_nil) (fun _ _ _ _ _ => (pe_op op_add (pe_op op_mul pe_int (pv 3)) (pe_callTy k_int1 (by rfl) B.int (by decide +kernel) (pa_cons (pe_cmpR (k_in K) (pv 2) (pv 4) (by rfl)) pa_nil))))))
 pss_nil), fun a w0 Q hc ret => ?_⟩
  obtain ⟨cs, bs, p⟩ := a
  have hc : cs.length ≤ 6 := hc
  refine go_ret (EE.is (ee_lcA (S := rInt) (fun z : Int × Blk => 2 * z.1 + bit (decide (p ∈ z.2))) (ei_zipLT (ee_var (a := cs) rfl) (ee_var (a := bs) rfl)) (clear2 rfl rfl rfl) (fun _ h => h) (fun a _ => eg_pair) (fun z _ =>
    ee_I0 (ee_I ee_int (ee_var (a := z.1) rfl) ?_ fun _ => rfl) (ee_intB (ee_inT (ee_var (a := p) rfl) (ee_var (a := z.2) rfl))) fun _ => rfl) ?_) rfl) ret
  · exact .inl ⟨by decide, by decide⟩
  · rw [List.length_zip]
    omega
end
end EM

set_option Elab.async false
set_option linter.all false
set_option maxRecDepth 100000
set_option maxHeartbeats 2000000
/-! EmD3: row_on, row_from, node_from, alike. -/
namespace EM
open PySem PySem.Spec PyProof.Rows L2 Evl
section
variable {P : Program} {w : World} {K : PySem.W.Frag} {mg : Str → Option Value} {base : Heap} {k : Nat} {aW : Addr}
-- slots of row_on: 0 layout, 1 other, 2 images, 3 ones, 4 others, 5 more, 6 image, 7 found
def rowF (a : Lay × Lay × List Int) : Option (List Int) → Prop
  | none => NoRow a.1 a.2.1 a.2.2
  | some r => IsRow a.1.1 r ∧ Agree a.1 a.2.1 r
structure Pre3 (a : Lay × Lay × List Int) : Prop where
  gM : GoodL a.1
  gN : GoodL a.2.1
  hn : a.1.1 = a.2.1.1
  gi : GoodIm a.1.1 a.2.2
abbrev arRow (a : Lay × Lay × List Int) : List Imm := [⟨rLay, a.1⟩, ⟨rLay, a.2.1⟩, ⟨rL rInt, a.2.2⟩, ⟨rL rInt, codes a.1 (rng a.2.2.length)⟩, ⟨rL rInt, codes a.2.1 a.2.2⟩]
abbrev spRow (n : Nat) : Sp := spec arRow (fun a => Pre3 a ∧ a.1.1 - a.2.2.length < (n : Int)) (rBy rowF (rOpt (rL rInt))) id
theorem pre3_none (a : Lay × Lay × List Int) : ¬ (Pre3 a ∧ a.1.1 - a.2.2.length < ((0 : Nat) : Int)) := fun ⟨h, h2⟩ => by
  have := h.gi.len (by have := h.gM.lo; omega)
  omega
theorem codes_len (M : Lay) (im : List Int) : (codes M im).length = M.2.length := by unfold codes; rw [List.length_map]
theorem rng_snoc (k : Nat) : rng ((k + 1 : Nat) : Int) = rng (k : Int) ++ [(k : Int)] := by
  rw [rng_nat, rng_nat, List.range_succ, List.map_append]
  rfl
abbrev psRow : List Str := ["layout", "other", "images", "ones", "others"]
theorem ok_row_on (D : Dn K mg "row_on" st_row_on psRow) (B : Blt mg) (C0 : Cal P w K mg base k "more_codes" ["codes", "blocks", "point"] spMore) : ∀ n : Nat, FnOk P w K mg base CX0 (k + n) D.f D.fd psRow (spRow n)
  | 0 => fn_none pre3_none
  | n + 1 => by
    have C_row_on : Cal P w K mg base (k + n) "row_on" psRow (spRow n) := D.cal (ok_row_on D B C0 n)
    have C_more_codes := C0.up (Nat.le_add_right k n)
    refine fn_spec D.F sc_row_on (fun _ => rfl) fun cdv A outer s H E hr => ?_
    have h64 := hr.units
    have h1 := un1 h64
    refine ⟨_, (pss_cons (ps_if (pt_cmpR (k_neD K h64) (pe_callB (k_sortI K) (by rfl) B.sorted (by decide +kernel) (pa_cons (pv 3) pa_nil)) (pe_callB (k_sortI K) (by rfl) B.sorted (by decide +kernel) (pa_cons (pv 4) pa_nil)) (nomark _))
(pss_cons (ps_ret pe_non)
 pss_nil)
pss_nil)
 (pss_cons (ps_if (pt_cmpR op_eq (pe_callB (k_len K) (by rfl) B.len (by decide +kernel) (pa_cons (pv 2) pa_nil)) (pe_ix (k_ixT K) (pv 0) pe_int (fun _ _ => rfl)) (nomark _))
(pss_cons (ps_ret (pe_callTy (k_listof K) (by rfl) B.list (by decide +kernel) (pa_cons (pv 2) pa_nil)))
 pss_nil)
pss_nil)
 (pss_cons (ps_set (i := 5) sc_row_on.nd rfl (Or.inl rfl) (k_call C_more_codes hr (by rfl) (pa_cons (pv 3) (pa_cons (pe_ix (k_ixT K) (pv 0) pe_int (fun _ _ => rfl)) (pa_cons (pe_callB (k_len K) (by rfl) B.len (by decide +kernel) (pa_cons (pv 2) pa_nil)) pa_nil)))))
 (pss_cons (ps_for PassesOwn.never rfl (pi_range1 (by rfl) B.range (pa_cons (pe_ix (k_ixT K) (pv 0) pe_int (fun _ _ => rfl)) pa_nil)) (pg_name (i := 6) sc_row_on.nd rfl (Or.inl rfl))
(pss_cons (ps_if (pt_cmpR (k_notin K) (pv 6) (pv 2) (by rfl))
(pss_cons (ps_set (i := 7) sc_row_on.nd rfl (Or.inl rfl) (k_call C_row_on hr (by rfl) (pa_cons (pv 0) (pa_cons (pv 1) (pa_cons (pe_op op_cat (pv 2) (pe_lst (pa_cons (pv 6) pa_nil))) (pa_cons (pv 5) (pa_cons (k_call C_more_codes hr (by rfl) (pa_cons (pv 4) (pa_cons (pe_ix (k_ixT K) (pv 1) pe_int (fun _ _ => rfl)) (pa_cons (pv 6) pa_nil)))) pa_nil)))))))
 (pss_cons (ps_if (pt_cmpR k_notN (pv 7) pe_non (nomark _))
(pss_cons (ps_ret (pv 7))
 pss_nil)
pss_nil)
 pss_nil))
pss_nil)
 pss_nil))
 (pss_cons (ps_ret pe_non)
 pss_nil))))), fun a w0 Q ⟨pre, fu⟩ ret => ?_⟩
    obtain ⟨M, N, im⟩ := a
    have gM : GoodL M := pre.gM
    have gN : GoodL N := pre.gN
    have hn : M.1 = N.1 := pre.hn
    have gi : GoodIm M.1 im := pre.gi
    have fu : M.1 - im.length < ((n + 1 : Nat) : Int) := fu
    have hlo : 1 ≤ M.1 := gM.lo
    have hhi : M.1 ≤ 5 := gM.hi
    have hfM : M.2.length ≤ 6 := gM.few
    have hfN : N.2.length ≤ 6 := gN.few
    have hil := gi.len (by omega)
    refine go_when (et_B (ee_neLI (ee_sortI (ee_var (a := codes M (rng im.length)) rfl)) (ee_sortI (ee_var (a := codes N im) rfl)))) (fun h => ?_) (fun h => ?_)
    · refine go_ret (ee_by ee_non ?_) ret
      refine noRow_not fun ha => ?_
      have ha : Agree M N im := ha
      simp [codes_iff.mpr ha] at h
    have ha : Agree M N im := codes_iff.mp (by simpa using h)
    refine go_when (et_B (ee_eqI (ee_lenL (ee_var (a := im) rfl)) (ee_fst (ee_var (a := M) rfl)))) (fun h => ?_) (fun h => ?_)
    · refine go_ret (ee_by (ee_opt (ee_listL (ee_var (a := im) rfl))) ?_) ret
      exact ⟨⟨gi, of_decide_eq_true h⟩, ha⟩
    have hne := of_decide_eq_false h
    have hlt : (im.length : Int) < M.1 := by omega
    refine go_asg (R := rL rInt) (a := codes M (rng ((im.length + 1 : Nat) : Int))) (EE.is (ee_call (codes M (rng im.length), M.2, (im.length : Int)) (ea_cons (ee_var rfl) (ea_cons (ee_snd (ee_var (a := M) rfl)) (ea_cons (ee_lenL (ee_var (a := im) rfl)) ea_nil))) (by show (codes M _).length ≤ 6; rw [codes_len]; exact hfM)) ?_) ?_
    · show moreCodes (codes M (rng im.length)) M.2 im.length = _
      rw [moreCodes_eq, rng_snoc]
    refine go_for (as := rng M.1) (fun i => ⟨[some ⟨rLay, M⟩, some ⟨rLay, N⟩, some ⟨rL rInt, im⟩, some ⟨rL rInt, codes M (rng im.length)⟩, some ⟨rL rInt, codes N im⟩, some ⟨rL rInt, codes M (rng ((im.length + 1 : Nat) : Int))⟩, none, none], none⟩)
      (fun i => ∀ y, y ∈ (rng M.1).take i → y ∉ im → NoRow M N (im ++ [y])) (fun i y => ⟨[some ⟨rLay, M⟩, some ⟨rLay, N⟩, some ⟨rL rInt, im⟩, some ⟨rL rInt, codes M (rng im.length)⟩, some ⟨rL rInt, codes N im⟩, some ⟨rL rInt, codes M (rng ((im.length + 1 : Nat) : Int))⟩, some ⟨rInt, y⟩, none], none⟩)
      (ei_range (ee_fst (ee_var (a := M) rfl)) (by omega) (by omega)) (by intro y h; cases h) (fun _ _ _ => eg_name) (fun _ _ => Keep.none rfl) (fun B2 i y hy hp => ?_) (fun hp => ?_)
    · have hym := List.mem_of_getElem? hy
      have snoc : y ∉ im → (∀ z, z ∈ (rng M.1).take (i + 1) → z ∉ im → NoRow M N (im ++ [z])) ∨ ¬ NoRow M N (im ++ [y]) := fun _ => by
        by_cases q : NoRow M N (im ++ [y])
        · refine .inl fun z hz hz2 => ?_
          rw [take_succ_at hy] at hz
          rcases List.mem_append.mp hz with hz | hz
          · exact hp z hz hz2
          · rw [List.mem_singleton] at hz
            rw [hz]
            exact q
        · exact .inr q
      refine go_when (et_B (ee_niL (ee_var (a := y) rfl) (ee_var (a := im) rfl))) (fun h => ?_) (fun h => ?_)
      · have hni : y ∉ im := by simpa using h
        have e : (im ++ [y]).length = im.length + 1 := by rw [List.length_append]; rfl
        have p3 : Pre3 (M, N, im ++ [y]) := ⟨gM, gN, hn, gi.snoc hym hni⟩
        refine go_asgB (F := rowF) (R := rOpt (rL rInt)) (b := (M, N, im ++ [y])) (ee_call (M, N, im ++ [y]) (ea_cons (ee_var rfl) (ea_cons (ee_var rfl) (ea_cons (ee_cat (ee_var (a := im) rfl) (ee_lst (as := [y]) (eas_cons (ee_var rfl) eas_nil) (by show 1 ≤ 100000; decide)) (by show im.length + 1 ≤ 90000; omega))
          (ea_cons (EE.is (ee_var (R := rL rInt) (a := codes M (rng ((im.length + 1 : Nat) : Int))) rfl) (by show _ = codes M (rng ((im ++ [y]).length)); rw [e]))
          (ea_cons (EE.is (ee_call (codes N im, N.2, y) (ea_cons (ee_var rfl) (ea_cons (ee_snd (ee_var (a := N) rfl)) (ea_cons (ee_var rfl) ea_nil))) (by show (codes N _).length ≤ 6; rw [codes_len]; exact hfN)) (moreCodes_eq N im y)) ea_nil))))) ⟨p3, ?_⟩) fun o ho => ?_
        · show M.1 - (im ++ [y]).length < (n : Int)
          rw [e]
          omega
        refine go_when (et_B (ee_notN (ee_var (a := o) rfl) noNon_L)) (fun h => ?_) (fun h => ?_)
        · obtain ⟨r, rfl⟩ := Option.isSome_iff_exists.mp h
          exact go_ret (ee_by (F := rowF) (b := (M, N, im)) (ee_var (R := rOpt (rL rInt)) (a := some r) rfl) ho) ret
        · have eo : o = none := by simpa using h
          subst eo
          refine go_turn ?_ (.keep (.keep (.keep (.keep (.keep (.keep (.drop (.drop .nil)))))))) rfl
          exact (snoc hni).resolve_right fun q => q ho
      · have hin : y ∈ im := by simpa using h
        refine go_turn (fun z hz hz2 => ?_) (.keep (.keep (.keep (.keep (.keep (.keep (.drop (.drop .nil)))))))) rfl
        rw [take_succ_at hy] at hz
        rcases List.mem_append.mp hz with hz | hz
        · exact hp z hz hz2
        · rw [List.mem_singleton] at hz
          rw [hz] at hz2
          exact absurd hin hz2
    · refine go_ret (ee_by ee_non ?_) ret
      rw [List.take_length] at hp
      exact noRow_sons hlt fun y hy hy2 => hp y hy hy2
-- slots of row_from: 0 layout, 1 other, 2 images, 3 ones, 4 others, 5 point, 6 image, 7 block
abbrev spFrom : Sp := spec ar3 (fun a => Pre3 a ∧ a.2.2 = []) (rBy rowF (rOpt (rL rInt))) id
theorem ok_row_from (D : Dn K mg "row_from" st_row_from ["layout", "other", "images"]) (B : Blt mg) (C_more_codes : Cal P w K mg base k "more_codes" ["codes", "blocks", "point"] spMore) (C_row_on : Cal P w K mg base k "row_on" psRow (spRow 6)) : FnOk P w K mg base CX0 (k + 1) D.f D.fd ["layout", "other", "images"] spFrom := by
  refine fn_spec D.F sc_row_from (fun _ => rfl) fun cdv A outer s H E hr => ?_
  have h64 := hr.units
  have h1 := un1 h64
  refine ⟨_, (pss_cons (ps_setLc (i := 3) (own := [("block", 7)]) rfl sc_row_from.nd rfl rfl (sw_true rfl rfl rfl (by decide +kernel)) (k_iT K (pe_ix (k_ixT K) (pv 0) pe_int (fun _ _ => rfl))) (blkOk_by (by kernel_rfl)) (fun _ _ _ _ _ => (pg_name (i := 7) sc_row_from.nd rfl (by first | exact Or.inl rfl | exact Or.inr rfl))) (fun _ _ _ _ _ => pts_nil) (fun _ _ _ _ _ => pe_int))
 (pss_cons (ps_setLc (i := 4) (own := [("block", 7)]) rfl sc_row_from.nd rfl rfl (sw_true rfl rfl rfl (by decide +kernel)) (k_iT K (pe_ix (k_ixT K) (pv 1) pe_int (fun _ _ => rfl))) (blkOk_by (by kernel_rfl)) (fun _ _ _ _ _ => (pg_name (i := 7) sc_row_from.nd rfl (by first | exact Or.inl rfl | exact Or.inr rfl))) (fun _ _ _ _ _ => pts_nil) (fun _ _ _ _ _ => pe_int))
 (pss_cons (ps_for PassesOwn.never rfl (k_iE K (by rfl) B.enumerate (pa_cons (pv 2) pa_nil)) (k_gT K (n := 2) (pgs_cons (pg_name (i := 5) sc_row_from.nd rfl (Or.inl rfl)) (pgs_cons (pg_name (i := 6) sc_row_from.nd rfl (Or.inl rfl)) pgs_nil)))
(pss_cons (ps_set (i := 3) sc_row_from.nd rfl (Or.inl rfl) (k_call C_more_codes hr (by rfl) (pa_cons (pv 3) (pa_cons (pe_ix (k_ixT K) (pv 0) pe_int (fun _ _ => rfl)) (pa_cons (pv 5) pa_nil)))))
 (pss_cons (ps_set (i := 4) sc_row_from.nd rfl (Or.inl rfl) (k_call C_more_codes hr (by rfl) (pa_cons (pv 4) (pa_cons (pe_ix (k_ixT K) (pv 1) pe_int (fun _ _ => rfl)) (pa_cons (pv 6) pa_nil)))))
 pss_nil)))
 (pss_cons (ps_ret (k_call C_row_on hr (by rfl) (pa_cons (pv 0) (pa_cons (pv 1) (pa_cons (pv 2) (pa_cons (pv 3) (pa_cons (pv 4) pa_nil)))))))
 pss_nil)))), fun a w0 Q ⟨pre, hnil⟩ ret => ?_⟩
  obtain ⟨M, N, im⟩ := a
  have hnil : im = [] := hnil
  subst hnil
  have gM : GoodL M := pre.gM
  have gN : GoodL N := pre.gN
  have hfM : M.2.length ≤ 6 := gM.few
  have hfN : N.2.length ≤ 6 := gN.few
  have hhi : M.1 ≤ 5 := gM.hi
  refine go_asg (R := rL rInt) (a := codes M []) (ee_lcA (S := rInt) (fun b => 0) (ei_tup (ee_snd (ee_var (a := M) rfl))) (clear1 rfl rfl) mem1 (fun a _ => eg_name) (fun b _ => ee_int) (by omega)) ?_
  refine go_asg (R := rL rInt) (a := codes N []) (ee_lcA (S := rInt) (fun b => 0) (ei_tup (ee_snd (ee_var (a := N) rfl))) (clear1 rfl rfl) mem1 (fun a _ => eg_name) (fun b _ => ee_int) (by omega)) ?_
  refine go_for (as := ([] : List (Int × Int))) (R := rP rInt rInt) (fun i => ⟨[some ⟨rLay, M⟩, some ⟨rLay, N⟩, some ⟨rL rInt, []⟩, some ⟨rL rInt, codes M []⟩, some ⟨rL rInt, codes N []⟩, none, none, none], none⟩) (fun _ => True) (fun i z => (Ctx.set ⟨[some ⟨rLay, M⟩, some ⟨rLay, N⟩, some ⟨rL rInt, []⟩, some ⟨rL rInt, codes M []⟩, some ⟨rL rInt, codes N []⟩, none, none, none], none⟩ 5 rInt z.1).set 6 rInt z.2)
    (ei_enumNil (ee_var (a := ([] : List Int)) rfl)) trivial (fun _ _ _ => eg_pair) (fun _ _ => Keep.none rfl) (fun B2 i z hz _ => by cases hz) (fun _ => ?_)
  refine go_ret (ee_call (M, N, []) (ea_cons (ee_var rfl) (ea_cons (ee_var rfl) (ea_cons (ee_var rfl) (ea_cons (ee_var rfl) (ea_cons (ee_var rfl) ea_nil))))) ⟨pre, ?_⟩) ret
  show M.1 - (([] : List Int).length : Int) < 6
  simp
  omega
-- slots of node_from: 0 layout, 1 other, 2 images, 3 trace, 4 sons, 5 image
def nodeF (a : Lay × Lay × List Int) (nd : Nd) : Prop := taken a.1 a.2.1 nd a.2.2 = true
abbrev spNode (n : Nat) : Sp := spec ar3 (fun a => (Pre3 a ∧ a.1.1 - a.2.2.length < (n : Int)) ∧ NoRow a.1 a.2.1 a.2.2) (rBy nodeF rNd) id
def sonF (M N : Lay) (im : List Int) (y : Int) (z : Int × Nd) : Prop := z.1 = y ∧ taken M N z.2 (im ++ [y]) = true
abbrev rSon (M N : Lay) (im : List Int) : Rel Int := rBy (sonF M N im) (rP rInt rNd)
theorem sons_zip {M N : Lay} {im : List Int} : ∀ {ys : List Int} {as : List (Int × Nd)}, P2 (sonF M N im) ys as → as = ys.zip (as.map (·.2))
  | _, _, .nil => rfl
  | _, _, .cons (b := (y, nd)) h t => by
    have e : y = _ := h.1
    subst e
    have ih := sons_zip t
    rw [List.map_cons, List.zip_cons_cons, ← ih]
theorem free_on {n y : Int} {im : List Int} {i : Nat} (h : (rng n)[i]? = some y) : ((rng n).take (i + 1)).filter (fun y => !decide (y ∈ im)) = ((rng n).take i).filter (fun y => !decide (y ∈ im)) ++ (if y ∈ im then [] else [y]) := by
  rw [take_succ_at h, List.filter_append, List.filter_cons, List.filter_nil]
  by_cases q : y ∈ im <;> simp [q]
theorem ok_node_from (D : Dn K mg "node_from" st_node_from ["layout", "other", "images"]) (B : Blt mg) (C0 : Cal P w K mg base k "parting_trace" ["layout", "other", "images"] spPart) : ∀ n : Nat, FnOk P w K mg base CX0 (k + n) D.f D.fd ["layout", "other", "images"] (spNode n)
  | 0 => fn_none fun a h => pre3_none a h.1
  | n + 1 => by
    have C_node_from : Cal P w K mg base (k + n) "node_from" ["layout", "other", "images"] (spNode n) := D.cal (ok_node_from D B C0 n)
    have C_parting_trace := C0.up (Nat.le_add_right k n)
    refine fn_spec D.F sc_node_from (fun _ => rfl) fun cdv A outer s H E hr => ?_
    have h64 := hr.units
    have h1 := un1 h64
    refine ⟨_, (pss_cons (ps_set (i := 3) sc_node_from.nd rfl (Or.inl rfl) (k_call C_parting_trace hr (by rfl) (pa_cons (pv 0) (pa_cons (pv 1) (pa_cons (pv 2) pa_nil)))))
 (pss_cons (ps_if (pt_cmpR k_notN (pv 3) pe_non (nomark _))
(pss_cons (ps_ret (pe_tup (pa_cons pe_str (pa_cons (pv 3) pa_nil))))
 pss_nil)
pss_nil)
 (pss_cons (ps_set (i := 4) sc_node_from.nd rfl (Or.inl rfl) (pe_lst pa_nil))
 (pss_cons (ps_for PassesOwn.never rfl (pi_range1 (by rfl) B.range (pa_cons (pe_ix (k_ixT K) (pv 0) pe_int (fun _ _ => rfl)) pa_nil)) (pg_name (i := 5) sc_node_from.nd rfl (Or.inl rfl))
(pss_cons (ps_if (pt_cmpR (k_notin K) (pv 5) (pv 2) (by rfl))
(pss_cons (ps_expr (k_bm K PySem.F.plainAttrs_list PySem.F.slot_list_append PySem.F.type_list_append mt_append (pv 4) (pa_cons (pe_tup (pa_cons (pv 5) (pa_cons (k_call C_node_from hr (by rfl) (pa_cons (pv 0) (pa_cons (pv 1) (pa_cons (pe_op op_cat (pv 2) (pe_lst (pa_cons (pv 5) pa_nil))) pa_nil)))) pa_nil))) pa_nil)))
 pss_nil)
pss_nil)
 pss_nil))
 (pss_cons (ps_ret (pe_tup (pa_cons pe_str (pa_cons (pe_callB (k_len K) (by rfl) B.len (by decide +kernel) (pa_cons (pv 2) pa_nil)) (pa_cons (pe_callTy (k_tupof K) (by rfl) B.tuple (by decide +kernel) (pa_cons (pv 4) pa_nil)) pa_nil)))))
 pss_nil))))), fun a w0 Q ⟨⟨pre, fu⟩, hno⟩ ret => ?_⟩
    obtain ⟨M, N, im⟩ := a
    have gM : GoodL M := pre.gM
    have gN : GoodL N := pre.gN
    have hn : M.1 = N.1 := pre.hn
    have gi : GoodIm M.1 im := pre.gi
    have hno : NoRow M N im := hno
    have fu : M.1 - im.length < ((n + 1 : Nat) : Int) := fu
    have hlo : 1 ≤ M.1 := gM.lo
    have hhi : M.1 ≤ 5 := gM.hi
    have hil := gi.len (by omega)
    refine go_asgB (F := partF) (R := rOpt (rT rInt)) (b := (M, N, im)) (ee_call (M, N, im) (ea_cons (ee_var rfl) (ea_cons (ee_var rfl) (ea_cons (ee_var rfl) ea_nil))) ⟨gM.few, gN.few, by show im.length ≤ 1000; omega⟩) fun o ho => ?_
    refine go_when (et_B (ee_notN (ee_var (a := o) rfl) noNon_T)) (fun h => ?_) (fun h => ?_)
    · obtain ⟨t, rfl⟩ := Option.isSome_iff_exists.mp h
      have ho : (t ∈ traces M (rng im.length) ∨ t ∈ traces N im) ∧ (((traces M (rng im.length)).count t : Nat) : Int) ≠ (((traces N im).count t : Nat) : Int) := ho
      have tl : t.length ≤ 1000 := by
        rw [trace_self ho.1]
        have h1 := List.length_filter_le (fun x => decide (x ∈ t)) (rng (im.length : Int))
        rw [rng_len] at h1
        omega
      exact go_ret (ee_by (F := nodeF) (b := (M, N, im)) (a := Nd.tr t) (ee_trIn (ee_tup2 (a := ("trace" : Str)) ee_str (ee_sIn (ee_some (ee_var rfl) rfl) tl))) (taken_tr ho.1 ho.2)) ret
    have eo : o = none := by simpa using h
    subst eo
    have ha : Agree M N im := agree_counts ho
    have hlt := short_of gi (by omega) hno ha
    refine go_ownL (rSon M N im) (by show 4 < 6; decide) ?_
    refine go_for (as := rng M.1) (fun i => ⟨[some ⟨rLay, M⟩, some ⟨rLay, N⟩, some ⟨rL rInt, im⟩, some ⟨rOpt (rT rInt), none⟩, none, none], some (4, ownL (rSon M N im) (((rng M.1).take i).filter fun y => !decide (y ∈ im)))⟩) (fun _ => True)
      (fun i y => ⟨[some ⟨rLay, M⟩, some ⟨rLay, N⟩, some ⟨rL rInt, im⟩, some ⟨rOpt (rT rInt), none⟩, none, some ⟨rInt, y⟩], some (4, ownL (rSon M N im) (((rng M.1).take i).filter fun y => !decide (y ∈ im)))⟩)
      (ei_range (ee_fst (ee_var (a := M) rfl)) (by omega) (by omega)) trivial (fun _ _ _ => eg_name) (fun _ _ => keepO rfl rfl rfl) (fun B2 i y hy hp => ?_) (fun _ => ?_)
    · have hym := List.mem_of_getElem? hy
      refine go_when (et_B (ee_niL (ee_var (a := y) rfl) (ee_var (a := im) rfl))) (fun h => ?_) (fun h => ?_)
      · have hni : y ∉ im := by simpa using h
        have e : (im ++ [y]).length = im.length + 1 := by rw [List.length_append]; rfl
        have p3 : Pre3 (M, N, im ++ [y]) := ⟨gM, gN, hn, gi.snoc hym hni⟩
        refine go_append (R := rSon M N im) (a := y) rfl (EE.imp (ee_tup2 (a := y) (b := ((M, N, im ++ [y]) : Lay × Lay × List Int)) (ee_var rfl) (ee_call (M, N, im ++ [y]) (ea_cons (ee_var rfl) (ea_cons (ee_var rfl) (ea_cons (ee_cat (ee_var (a := im) rfl) (ee_lst (as := [y]) (eas_cons (ee_var rfl) eas_nil) (by show 1 ≤ 100000; decide)) (by show im.length + 1 ≤ 90000; omega)) ea_nil))) ⟨⟨p3, ?_⟩, noRow_more hno⟩)) ?_) ?_ ?_
        · show M.1 - (im ++ [y]).length < (n : Int)
          rw [e]
          omega
        · rintro v H ⟨p, x, z, rfl, hp, hx, nd, hnd, hz⟩
          exact ⟨(y, nd), ⟨rfl, hnd⟩, p, x, z, rfl, hp, hx, hz⟩
        · have h1 := List.length_filter_le (fun y => !decide (y ∈ im)) ((rng M.1).take i)
          rw [List.length_take, rng_len] at h1
          omega
        · refine go_eqO (bs := ((rng M.1).take (i + 1)).filter fun y => !decide (y ∈ im)) (by rw [free_on hy, if_neg hni]) ?_
          exact go_turn trivial (.keep (.keep (.keep (.keep (.keep (.drop .nil)))))) rfl
      · have hin : y ∈ im := by simpa using h
        refine go_eqO (bs := ((rng M.1).take (i + 1)).filter fun y => !decide (y ∈ im)) (by rw [free_on hy, if_pos hin, List.append_nil]) ?_
        exact go_turn trivial (.keep (.keep (.keep (.keep (.keep (.drop .nil)))))) rfl
    · refine go_fixL rfl (by show 4 < 6; decide) ?_
      refine go_ret (EE.imp (ee_tup3 (a := ("next" : Str)) (b := (im.length : Int)) ee_str (ee_lenL (ee_var (a := im) rfl)) (ee_tupL (ee_var rfl))) ?_) ret
      rintro v H ⟨p, x, y, z, rfl, hp, hx, hy, q, zs, rfl, hq, hz⟩
      rw [List.take_length] at hz
      obtain ⟨as, h1, h2⟩ := p2_by hz
      have hx : x = .str "next" := hx
      have hy : y = .int im.length := hy
      subst hx hy
      refine ⟨.nx im.length as, ?_, .nx hp hq (p2_snR h2)⟩
      show taken M N (.nx im.length as) im = true
      rw [sons_zip h1]
      refine taken_nx hn hlt (ns := as.map (·.2)) ?_ fun i y nd hi hnd => ?_
      · rw [List.length_map, ← h1.len]
        rfl
      · obtain ⟨b, hb, f⟩ := h1.at (i := i) (a := y) hi
        rw [List.getElem?_map, hb] at hnd
        have e := Option.some.inj hnd
        rw [← e]
        exact f.2
-- slots of alike: 0 layout, 1 other, 2 word, 3 row
abbrev ar2 (a : Lay × Lay) : List Imm := [⟨rLay, a.1⟩, ⟨rLay, a.2⟩]
def toldF (a : Lay × Lay) (t : Told) : Prop := ToldOk a.1 a.2 t
abbrev spAlike : Sp := spec ar2 (fun a => GoodL a.1 ∧ GoodL a.2) (rBy toldF rTold) id
theorem ok_alike (D : Dn K mg "alike" st_alike ["layout", "other"]) (B : Blt mg) (C_first_unlike : Cal P w K mg base k "first_unlike" ["layout", "other"] spUnlike) (C_row_from : Cal P w K mg base k "row_from" ["layout", "other", "images"] spFrom) (C_node_from : Cal P w K mg base k "node_from" ["layout", "other", "images"] (spNode 6)) :
    FnOk P w K mg base CX0 (k + 1) D.f D.fd ["layout", "other"] spAlike := by
  refine fn_spec D.F sc_alike (fun _ => rfl) fun cdv A outer s H E hr => ?_
  have h64 := hr.units
  refine ⟨_, (pss_cons (ps_set (i := 2) sc_alike.nd rfl (Or.inl rfl) (k_call C_first_unlike hr (by rfl) (pa_cons (pv 0) (pa_cons (pv 1) pa_nil))))
 (pss_cons (ps_if (pt_cmpR k_notN (pv 2) pe_non (nomark _))
(pss_cons (ps_ret (pe_tup (pa_cons pe_str (pa_cons (pe_tup (pa_cons pe_str (pa_cons (pv 2) pa_nil))) pa_nil))))
 pss_nil)
pss_nil)
 (pss_cons (ps_set (i := 3) sc_alike.nd rfl (Or.inl rfl) (k_call C_row_from hr (by rfl) (pa_cons (pv 0) (pa_cons (pv 1) (pa_cons (pe_lst pa_nil) pa_nil)))))
 (pss_cons (ps_if (pt_cmpR k_notN (pv 3) pe_non (nomark _))
(pss_cons (ps_ret (pe_tup (pa_cons pe_str (pa_cons (pv 3) pa_nil))))
 pss_nil)
pss_nil)
 (pss_cons (ps_ret (pe_tup (pa_cons pe_str (pa_cons (pe_tup (pa_cons pe_str (pa_cons (k_call C_node_from hr (by rfl) (pa_cons (pv 0) (pa_cons (pv 1) (pa_cons (pe_lst pa_nil) pa_nil)))) pa_nil))) pa_nil))))
 pss_nil))))), fun a w0 Q ⟨gM, gN⟩ ret => ?_⟩
  obtain ⟨M, N⟩ := a
  have gM : GoodL M := gM
  have gN : GoodL N := gN
  have hlo : 1 ≤ M.1 := gM.lo
  have hhi : M.1 ≤ 5 := gM.hi
  refine go_asg (R := rOpt rStr) (a := unlikeM M N) (ee_call (M, N) (ea_cons (ee_var rfl) (ea_cons (ee_var rfl) ea_nil)) ⟨gM, gN⟩) ?_
  refine go_when (et_B (ee_notN (ee_var (a := unlikeM M N) rfl) noNon_S)) (fun h => ?_) (fun h => ?_)
  · obtain ⟨wd, e⟩ := Option.isSome_iff_exists.mp h
    refine go_ret (ee_by (F := toldF) (b := (M, N)) (a := .unl (.cnt wd)) (ee_unl.mpr (ee_tup2 (a := ("unlike" : Str)) ee_str (ee_cnt.mpr (ee_tup2 (a := ("count" : Str)) ee_str (ee_some (ee_var (a := unlikeM M N) rfl) e))))) ?_) ret
    unfold unlikeM at e
    exact ⟨List.mem_of_find?_eq_some e, by simpa using List.find?_some e⟩
  have eo : unlikeM M N = none := by simpa using h
  have hn : M.1 = N.1 := by
    unfold unlikeM at eo
    rw [List.find?_eq_none] at eo
    have := eo "points" (by decide)
    simp only [countsBy, if_true] at this
    simpa [PyData.eqv] using this
  have p3 : Pre3 (M, N, []) := ⟨gM, gN, hn, GoodIm.nil⟩
  refine go_asgB (F := rowF) (R := rOpt (rL rInt)) (b := (M, N, [])) (ee_call (M, N, []) (ea_cons (ee_var rfl) (ea_cons (ee_var rfl) (ea_cons (ee_lst eas_nil (by show 0 ≤ 100000; decide)) ea_nil))) ⟨p3, rfl⟩) fun o ho => ?_
  refine go_when (et_B (ee_notN (ee_var (a := o) rfl) noNon_L)) (fun h => ?_) (fun h => ?_)
  · obtain ⟨r, rfl⟩ := Option.isSome_iff_exists.mp h
    exact go_ret (ee_by (F := toldF) (b := (M, N)) (a := .ali r) (ee_ali.mpr (ee_tup2 (a := ("alike" : Str)) ee_str (ee_some (ee_var (a := some r) rfl) rfl))) ⟨ho.1, hn, ho.2⟩) ret
  have eo2 : o = none := by simpa using h
  subst eo2
  have hno : NoRow M N [] := ho
  refine go_ret (EE.imp (S := rBy toldF rTold) (b := (M, N)) (ee_tup2 (a := ("unlike" : Str)) ee_str (ee_tup2 (a := ("tree" : Str)) ee_str (ee_call (M, N, []) (ea_cons (ee_var rfl) (ea_cons (ee_var rfl) (ea_cons (ee_lst eas_nil (by show 0 ≤ 100000; decide)) ea_nil))) ⟨⟨p3, ?_⟩, hno⟩))) ?_) ret
  · show M.1 - (([] : List Int).length : Int) < 6
    simp
    omega
  · rintro v H ⟨p, x, y, rfl, hp, hx, q, x2, y2, rfl, hq, hx2, nd, hnd, hy2⟩
    exact ⟨.unl (.tre nd), ⟨hn, hno, hnd⟩, p, x, _, rfl, hp, hx, q, x2, y2, rfl, hq, hx2, hy2⟩
end
end EM

set_option Elab.async false
set_option linter.all false
set_option maxRecDepth 100000
set_option maxHeartbeats 2000000
/-! EmD4: is_whole, is_row_of, trace_taken, sons_taken, node_taken, apart_taken. -/
namespace EM
open PySem PySem.Spec PyProof.Rows L2 Evl
section
variable {P : Program} {w : World} {K : PySem.W.Frag} {mg : Str → Option Value} {base : Heap} {k : Nat} {aW : Addr}
-- slots of is_whole: 0 thing
abbrev spWhole : Sp := spec (fun i : Int => [⟨rInt, i⟩]) (fun _ => True) rBool (fun _ => true)
theorem ok_is_whole (D : Dn K mg "is_whole" st_is_whole ["thing"]) (B : Blt mg) : FnOk P w K mg base CX0 (k + 1) D.f D.fd ["thing"] spWhole := by
  refine fn_spec D.F sc_is_whole (fun _ => rfl) fun cdv A outer s H E hr => ?_
  have h64 := hr.units
  refine ⟨_, (pss_cons (ps_ret (pe_and (pe_callB (k_isi K) (by rfl) B.isinstance (by decide +kernel) (pa_cons (pv 0) (pa_cons (pe_bltn (v := .ty "int") (by rfl) B.int (by decide +kernel) rfl) pa_nil))) (pe_one (pe_not (pe_callB (k_isi K) (by rfl) B.isinstance (by decide +kernel) (pa_cons (pv 0) (pa_cons (pe_bltn (v := .ty "bool") (by rfl) B.bool (by decide +kernel) rfl) pa_nil)))))))
 pss_nil), fun i w0 Q _ ret => ?_⟩
  exact go_ret (EE.is (ee_andV (ee_isi (b := true) (ee_var (a := i) rfl) ty_int (by rfl)) fun _ => ee_notV (ee_isi (b := false) (ee_var (a := i) rfl) ty_int (by rfl))) rfl) ret
-- slots of is_row_of: 0 thing, 1 many
abbrev spIsRow : Sp := spec (fun a : Nat × Nat => [⟨rRow, a.1⟩, ⟨rInt, (a.2 : Int)⟩]) (fun _ => True) rBool (fun a => decide (a.1 = a.2))
theorem ok_is_row_of (D : Dn K mg "is_row_of" st_is_row_of ["thing", "many"]) (B : Blt mg) : FnOk P w K mg base CX0 (k + 1) D.f D.fd ["thing", "many"] spIsRow := by
  refine fn_spec D.F sc_is_row_of (fun _ => rfl) fun cdv A outer s H E hr => ?_
  have h64 := hr.units
  refine ⟨_, (pss_cons (ps_ret (pe_and (pe_callB (k_isi K) (by rfl) B.isinstance (by decide +kernel) (pa_cons (pv 0) (pa_cons (pe_bltn (v := .ty "tuple") (by rfl) B.tuple (by decide +kernel) rfl) pa_nil))) (pe_and (pe_cmpR op_eq (pe_callB (k_len K) (by rfl) B.len (by decide +kernel) (pa_cons (pv 0) pa_nil)) (pv 1) (nomark _)) (pe_one (pe_callB (k_isi K) (by rfl) B.isinstance (by decide +kernel) (pa_cons (pe_ix (k_ixT K) (pv 0) pe_int (fun _ _ => rfl)) (pa_cons (pe_bltn (v := .ty "str") (by rfl) B.str (by decide +kernel) rfl) pa_nil)))))))
 pss_nil), fun a w0 Q _ ret => ?_⟩
  obtain ⟨n, m⟩ := a
  refine go_ret (EE.is (ee_andV (ee_isi (b := true) (ee_var (R := rRow) (a := n) rfl) ty_R (by rfl)) fun _ => ee_andV (ee_eqI (ee_lenR (ee_var (a := n) rfl)) (ee_var (a := (m : Int)) rfl)) fun _ => (ee_isi (b := true) (ee_hdR (ee_var (a := n) rfl)) ty_strX (by rfl))) ?_) ret
  simp
  omega
-- slots of trace_taken: 0 layout, 1 other, 2 trace, 3 images, 4 ones, 5 point
abbrev spTrace : Sp := spec (fun a : Lay × Lay × List Int × List Int => [⟨rLay, a.1⟩, ⟨rLay, a.2.1⟩, ⟨rTr, a.2.2.1⟩, ⟨rL rInt, a.2.2.2⟩]) (fun a => a.1.2.length ≤ 6 ∧ a.2.1.2.length ≤ 6 ∧ a.2.2.2.length ≤ 1000) rBool (fun a => traceOk a.1 a.2.1 a.2.2.1 a.2.2.2)
theorem ok_trace_taken (D : Dn K mg "trace_taken" st_trace_taken ["layout", "other", "trace", "images"]) (B : Blt mg) (C_is_whole : Cal P w K mg base k "is_whole" ["thing"] spWhole) (C_traces : Cal P w K mg base k "traces" ["layout", "images"] spTraces) :
    FnOk P w K mg base CX0 (k + 1) D.f D.fd ["layout", "other", "trace", "images"] spTrace := by
  refine fn_spec D.F sc_trace_taken (fun _ => rfl) fun cdv A outer s H E hr => ?_
  have h64 := hr.units
  have h1 := un1 h64
  refine ⟨_, (pss_cons (ps_if (PW.pt (pw_or (pt_not (pt_val (pe_callB (k_isi K) (by rfl) B.isinstance (by decide +kernel) (pa_cons (pv 2) (pa_cons (pe_bltn (v := .ty "tuple") (by rfl) B.tuple (by decide +kernel) rfl) pa_nil))))) (pw_or1 (pt_not (pt_val (pe_callB (k_all K) (by rfl) B.all (by decide +kernel) (pa_cons (pe_lc (own := [("point", 5)]) rfl sc_trace_taken.nd (k_iT K (pv 2)) (blkOk_by (by kernel_rfl)) (fun _ _ _ _ _ => (pg_name (i := 5) sc_trace_taken.nd rfl (by first | exact Or.inl rfl | exact Or.inr rfl))) (fun _ _ _ _ _ => pts_nil) (fun _ _ _ _ _ => (k_call C_is_whole hr (by rfl) (pa_cons (pv 5) pa_nil)))) pa_nil)))))))
(pss_cons (ps_ret pe_bl)
 pss_nil)
pss_nil)
 (pss_cons (ps_if (pt_cmpR (k_neD K h64) (pe_callTy (k_listof K) (by rfl) B.list (by decide +kernel) (pa_cons (pv 2) pa_nil)) (pe_lc (own := [("point", 5)]) rfl sc_trace_taken.nd (pi_range1 (by rfl) B.range (pa_cons (pe_callB (k_len K) (by rfl) B.len (by decide +kernel) (pa_cons (pv 3) pa_nil)) pa_nil)) (blkOk_by (by kernel_rfl)) (fun _ _ _ _ _ => (pg_name (i := 5) sc_trace_taken.nd rfl (by first | exact Or.inl rfl | exact Or.inr rfl))) (fun _ _ _ _ _ => (pts_one (pt_cmpR (k_in K) (pv 5) (pv 2) (by rfl)))) (fun _ _ _ _ _ => (pv 5))) (nomark _))
(pss_cons (ps_ret pe_bl)
 pss_nil)
pss_nil)
 (pss_cons (ps_set (i := 4) sc_trace_taken.nd rfl (Or.inl rfl) (k_call C_traces hr (by rfl) (pa_cons (pv 0) (pa_cons (pe_listRg rfl (by rfl) B.list (prg_1 (by rfl) B.range (pe_callB (k_len K) (by rfl) B.len (by decide +kernel) (pa_cons (pv 3) pa_nil)))) pa_nil))))
 (pss_cons (ps_ret (pe_cmpR op_ne (k_get h1 (pv 4) (pv 2) pe_int) (k_get h1 (k_call C_traces hr (by rfl) (pa_cons (pv 1) (pa_cons (pv 3) pa_nil))) (pv 2) pe_int) (nomark _)))
 pss_nil)))), fun a w0 Q ⟨hM, hN, hp⟩ ret => ?_⟩
  obtain ⟨M, N, t, im⟩ := a
  have hM : M.2.length ≤ 6 := hM
  have hN : N.2.length ≤ 6 := hN
  have hp : im.length ≤ 1000 := hp
  refine go_know (R := rT rInt) (i := 2) (a := t) rfl fun ht => ?_
  have vt : ∀ {Γ : Ctx}, Γ.s[2]? = some (some ⟨rTr, t⟩) → EE (tVar 2) Γ (rT rInt) t := fun h => ee_sOut (ee_var h)
  refine go_when (b := false) (ET.is (et_or (et_not (et_B (ee_isi (b := true) (vt rfl) ty_T (by rfl)))) fun _ => et_not (et_test (ee_all (ee_lcA (S := rBool) (fun _ => true) (ei_tup (vt rfl)) (clear1 rfl rfl) mem1 (fun a _ => eg_name) (fun p _ => ee_call p (ea_cons (ee_var rfl) ea_nil) trivial) (by omega))))) ?_) (fun h => nomatch h) (fun _ => ?_)
  · simp
  refine go_when (et_B (ee_neLI (ee_listT (vt rfl)) (EE.is (ee_lc (S := rInt) (fun x => decide (x ∈ t)) id (ei_range (ee_lenL (ee_var (a := im) rfl)) (by omega) (by omega)) (clear1 rfl rfl) mem1 (fun a _ => eg_name) (fun x _ => et_B (ee_inT (ee_var rfl) (vt rfl))) (fun x _ _ => ee_var rfl) (by rw [rng_len]; omega)) (List.map_id _)))) (fun h => ?_) (fun h => ?_)
  · refine go_ret (EE.is ee_bl ?_) ret
    show false = traceOk M N t im
    unfold traceOk
    have h : ¬ t = (rng im.length).filter fun x => decide (x ∈ t) := by simpa using h
    rw [decide_eq_false h]
    rfl
  have h : t = (rng im.length).filter fun x => decide (x ∈ t) := by simpa using h
  refine go_asg (R := rDc) (a := traces M (rng im.length)) (ee_call (M, rng im.length) (ea_cons (ee_var rfl) (ea_cons (ee_listRg (ee_lenL (ee_var (a := im) rfl)) (by omega) (by omega)) ea_nil)) ⟨hM, by show (rng im.length).length ≤ _; rw [rng_len]; omega⟩) ?_
  refine go_ret (EE.is (ee_neI (ee_get (trs := traces M (rng im.length)) (t := t) (ee_var rfl) (vt rfl)) (ee_get (trs := traces N im) (t := t) (ee_call (N, im) (ea_cons (ee_var rfl) (ea_cons (ee_var rfl) ea_nil)) ⟨hN, hp⟩) (vt rfl))) ?_) ret
  show _ = traceOk M N t im
  unfold traceOk
  rw [decide_eq_true h]
  rfl
-- slots of sons_taken: 0 layout, 1 other, 2 sons, 3 images, 4 free, 5 image, 6 son
structure PreT (M N : Lay) (im : List Int) : Prop where
  gM : GoodL M
  gN : GoodL N
  gi : GoodIm N.1 im
abbrev spNT (n : Nat) : Sp := spec (fun a : Lay × Lay × Nd × List Int => [⟨rLay, a.1⟩, ⟨rLay, a.2.1⟩, ⟨rNd, a.2.2.1⟩, ⟨rL rInt, a.2.2.2⟩]) (fun a => PreT a.1 a.2.1 a.2.2.2 ∧ a.2.1.1 - a.2.2.2.length < (n : Int)) rBool (fun a => taken a.1 a.2.1 a.2.2.1 a.2.2.2)
def sonsB (M N : Lay) (sons : List (Int × Nd)) (im : List Int) : Bool := decide (sons.length = (free N.1 im).length) && takenZ M N sons (free N.1 im) im
abbrev spST (n : Nat) : Sp := spec (fun a : Lay × Lay × List (Int × Nd) × List Int => [⟨rLay, a.1⟩, ⟨rLay, a.2.1⟩, ⟨rT (rP rInt rNd), a.2.2.1⟩, ⟨rL rInt, a.2.2.2⟩]) (fun a => PreT a.1 a.2.1 a.2.2.2 ∧ a.2.1.1 - a.2.2.2.length < ((n + 1 : Nat) : Int)) rBool (fun a => sonsB a.1 a.2.1 a.2.2.1 a.2.2.2)
theorem zip_at {α β : Type} {as : List α} {bs : List β} {i : Nat} {z : α × β} (h : (as.zip bs)[i]? = some z) : as[i]? = some z.1 ∧ bs[i]? = some z.2 := by
  rw [List.getElem?_zip_eq_some] at h
  exact h
theorem ok_sons_taken {n : Nat} (D : Dn K mg "sons_taken" st_sons_taken ["layout", "other", "sons", "images"]) (B : Blt mg) (C_is_whole : Cal P w K mg base k "is_whole" ["thing"] spWhole) (C_node_taken : Cal P w K mg base k "node_taken" ["layout", "other", "node", "images"] (spNT n)) :
    FnOk P w K mg base CX0 (k + 1) D.f D.fd ["layout", "other", "sons", "images"] (spST n) := by
  refine fn_spec D.F sc_sons_taken (fun _ => rfl) fun cdv A outer s H E hr => ?_
  have h64 := hr.units
  refine ⟨_, (pss_cons (ps_setLc (i := 4) (own := [("image", 5)]) rfl sc_sons_taken.nd rfl rfl (sw_true rfl rfl rfl (by decide +kernel)) (pi_range1 (by rfl) B.range (pa_cons (pe_ix (k_ixT K) (pv 1) pe_int (fun _ _ => rfl)) pa_nil)) (blkOk_by (by kernel_rfl)) (fun _ _ _ _ _ => (pg_name (i := 5) sc_sons_taken.nd rfl (by first | exact Or.inl rfl | exact Or.inr rfl))) (fun _ _ _ _ _ => (pts_one (pt_cmpR (k_notin K) (pv 5) (pv 3) (by rfl)))) (fun _ _ _ _ _ => (pv 5)))
 (pss_cons (ps_if (PW.pt (pw_or (pt_not (pt_val (pe_callB (k_isi K) (by rfl) B.isinstance (by decide +kernel) (pa_cons (pv 2) (pa_cons (pe_bltn (v := .ty "tuple") (by rfl) B.tuple (by decide +kernel) rfl) pa_nil))))) (pw_or1 (pt_cmpR op_ne (pe_callB (k_len K) (by rfl) B.len (by decide +kernel) (pa_cons (pv 2) pa_nil)) (pe_callB (k_len K) (by rfl) B.len (by decide +kernel) (pa_cons (pv 4) pa_nil)) (nomark _)))))
(pss_cons (ps_ret pe_bl)
 pss_nil)
pss_nil)
 (pss_cons (ps_for PassesOwn.never rfl (pi_zipLT K (by rfl) B.zip (pa_cons (pv 4) (pa_cons (pv 2) pa_nil))) (k_gT K (n := 2) (pgs_cons (pg_name (i := 5) sc_sons_taken.nd rfl (Or.inl rfl)) (pgs_cons (pg_name (i := 6) sc_sons_taken.nd rfl (Or.inl rfl)) pgs_nil)))
(pss_cons (ps_if (PW.pt (pw_or (pt_not (pt_val (pe_callB (k_isi K) (by rfl) B.isinstance (by decide +kernel) (pa_cons (pv 6) (pa_cons (pe_bltn (v := .ty "tuple") (by rfl) B.tuple (by decide +kernel) rfl) pa_nil))))) (pw_or (pt_cmpR op_ne (pe_callB (k_len K) (by rfl) B.len (by decide +kernel) (pa_cons (pv 6) pa_nil)) pe_int (nomark _)) (pw_or (pt_not (pt_val (k_call C_is_whole hr (by rfl) (pa_cons (pe_ix (k_ixT K) (pv 6) pe_int (fun _ _ => rfl)) pa_nil)))) (pw_or1 (pt_cmpR op_ne (pe_ix (k_ixT K) (pv 6) pe_int (fun _ _ => rfl)) (pv 5) (nomark _)))))))
(pss_cons (ps_ret pe_bl)
 pss_nil)
pss_nil)
 (pss_cons (ps_if (pt_not (pt_val (k_call C_node_taken hr (by rfl) (pa_cons (pv 0) (pa_cons (pv 1) (pa_cons (pe_ix (k_ixT K) (pv 6) pe_int (fun _ _ => rfl)) (pa_cons (pe_op op_cat (pv 3) (pe_lst (pa_cons (pv 5) pa_nil))) pa_nil)))))))
(pss_cons (ps_ret pe_bl)
 pss_nil)
pss_nil)
 pss_nil)))
 (pss_cons (ps_ret pe_bl)
 pss_nil)))), fun a w0 Q ⟨pre, fu⟩ ret => ?_⟩
  obtain ⟨M, N, sons, im⟩ := a
  have gM : GoodL M := pre.gM
  have gN : GoodL N := pre.gN
  have gi : GoodIm N.1 im := pre.gi
  have fu : N.1 - im.length < ((n + 1 : Nat) : Int) := fu
  have hlo : 1 ≤ N.1 := gN.lo
  have hhi : N.1 ≤ 5 := gN.hi
  have hil := gi.len (by omega)
  have hfl : (free N.1 im).length ≤ 5 := by
    have h1 := List.length_filter_le (fun y => !decide (y ∈ im)) (rng N.1)
    rw [rng_len] at h1
    unfold free
    omega
  refine go_asg (R := rL rInt) (a := free N.1 im) (EE.is (ee_lc (S := rInt) (fun x => !decide (x ∈ im)) id (ei_range (ee_fst (ee_var (a := N) rfl)) (by omega) (by omega)) (clear1 rfl rfl) mem1 (fun a _ => eg_name) (fun x _ => et_B (ee_niL (ee_var rfl) (ee_var (a := im) rfl))) (fun x _ _ => ee_var rfl) (by rw [rng_len]; omega)) (by rw [List.map_id]; rfl)) ?_
  refine go_when (ET.is (et_or (et_not (et_B (ee_isi (b := true) (ee_var (R := rT (rP rInt rNd)) (a := sons) rfl) ty_T (by rfl)))) fun _ => et_B (ee_neI (ee_lenT (ee_var (R := rT (rP rInt rNd)) (a := sons) rfl)) (ee_lenL (ee_var (a := free N.1 im) rfl)))) (show _ = !decide (sons.length = (free N.1 im).length) by simp; omega)) (fun h => ?_) (fun h => ?_)
  · refine go_ret (EE.is ee_bl ?_) ret
    show false = sonsB M N sons im
    unfold sonsB
    have h : decide (sons.length = (free N.1 im).length) = false := by simpa using h
    rw [h]
    rfl
  have hl : sons.length = (free N.1 im).length := by simpa using h
  have bad : ∀ (i : Nat) (s : Int × Nd) (f : Int), sons[i]? = some s → (free N.1 im)[i]? = some f → takenP M N s f im = false → sonsB M N sons im = false := fun i s f h1 h2 h3 => by
    unfold sonsB
    cases q : takenZ M N sons (free N.1 im) im with
    | false => simp
    | true =>
      have := (takenZ_iff M N im sons (free N.1 im)).mp q i s f h1 h2
      rw [h3] at this
      cases this
  refine go_for (as := (free N.1 im).zip sons) (R := rP rInt (rP rInt rNd)) (fun i => ⟨[some ⟨rLay, M⟩, some ⟨rLay, N⟩, some ⟨rT (rP rInt rNd), sons⟩, some ⟨rL rInt, im⟩, some ⟨rL rInt, free N.1 im⟩, none, none], none⟩)
    (fun i => ∀ (j : Nat) s f, j < i → sons[j]? = some s → (free N.1 im)[j]? = some f → takenP M N s f im = true)
    (fun i z => ⟨[some ⟨rLay, M⟩, some ⟨rLay, N⟩, some ⟨rT (rP rInt rNd), sons⟩, some ⟨rL rInt, im⟩, some ⟨rL rInt, free N.1 im⟩, some ⟨rInt, z.1⟩, some ⟨rP rInt rNd, z.2⟩], none⟩)
    (ei_zipLT (ee_var rfl) (ee_var rfl)) (by intro j s f h; omega) (fun _ _ _ => eg_pair) (fun _ _ => Keep.none rfl) (fun B2 i z hz hp => ?_) (fun hp => ?_)
  · obtain ⟨h1, h2⟩ := zip_at hz
    obtain ⟨f, y, nd⟩ := z
    have h1 : (free N.1 im)[i]? = some f := h1
    have h2 : sons[i]? = some (y, nd) := h2
    have hfm := mem_free.mp (List.mem_of_getElem? h1)
    refine go_when (ET.is (et_or (et_not (et_B (ee_isi (b := true) (ee_var (R := rP rInt rNd) (a := (y, nd)) rfl) ty_P (by rfl)))) fun _ => et_or (et_B (ee_neI (ee_lenP (ee_var (R := rP rInt rNd) (a := (y, nd)) rfl)) ee_int)) fun _ => et_or (et_not (et_test (ee_call y (ea_cons (ee_fst (ee_var (R := rP rInt rNd) (a := (y, nd)) rfl)) ea_nil) trivial))) fun _ => et_B (ee_neI (ee_fst (ee_var (R := rP rInt rNd) (a := (y, nd)) rfl)) (ee_var (a := f) rfl)))
      (show _ = !decide (y = f) by simp)) (fun h => ?_) (fun h => ?_)
    · refine go_ret (EE.is ee_bl ?_) ret
      refine (bad i (y, nd) f h2 h1 ?_).symm
      unfold takenP
      have h : decide (y = f) = false := by simpa using h
      rw [h]
      rfl
    have hyf : y = f := by simpa using h
    have e : (im ++ [f]).length = im.length + 1 := by rw [List.length_append]; rfl
    refine go_when (et_not (et_test (ee_call (M, N, nd, im ++ [f]) (ea_cons (ee_var rfl) (ea_cons (ee_var rfl) (ea_cons (ee_snd (ee_var (R := rP rInt rNd) (a := (y, nd)) rfl)) (ea_cons (ee_cat (ee_var (a := im) rfl) (ee_lst (as := [f]) (eas_cons (ee_var rfl) eas_nil) (by show 1 ≤ 100000; decide)) (by show im.length + 1 ≤ 90000; omega)) ea_nil)))) ⟨⟨gM, gN, gi.snoc hfm.1 hfm.2⟩, ?_⟩))) (fun h => ?_) (fun h => ?_)
    · show N.1 - (im ++ [f]).length < (n : Int)
      rw [e]
      omega
    · refine go_ret (EE.is ee_bl ?_) ret
      refine (bad i (y, nd) f h2 h1 ?_).symm
      unfold takenP
      have h : taken M N nd (im ++ [f]) = false := by simpa using h
      rw [h]
      simp
    · have h : taken M N nd (im ++ [f]) = true := by simpa using h
      refine go_turn (fun j s' f' hj hs hf => ?_) (.keep (.keep (.keep (.keep (.keep (.drop (.drop .nil))))))) rfl
      by_cases hji : j < i
      · exact hp j s' f' hji hs hf
      · have e : j = i := by omega
        subst e
        rw [h2] at hs
        rw [h1] at hf
        cases hs
        cases hf
        unfold takenP
        rw [h, hyf]
        simp
  · refine go_ret (EE.is ee_bl ?_) ret
    show true = sonsB M N sons im
    unfold sonsB
    rw [decide_eq_true hl, Bool.true_and]
    refine ((takenZ_iff M N im sons (free N.1 im)).mpr fun i s f hs hf => hp i s f ?_ hs hf).symm
    have h1 := (List.getElem?_eq_some_iff.mp hs).1
    rw [List.length_zip]
    omega
-- slots of node_taken: 0 layout, 1 other, 2 node, 3 images
theorem ok_node_taken {n : Nat} (D : Dn K mg "node_taken" st_node_taken ["layout", "other", "node", "images"]) (B : Blt mg) (C_is_whole : Cal P w K mg base k "is_whole" ["thing"] spWhole) (C_is_row_of : Cal P w K mg base k "is_row_of" ["thing", "many"] spIsRow)
    (C_trace_taken : Cal P w K mg base k "trace_taken" ["layout", "other", "trace", "images"] spTrace) (C_sons_taken : Cal P w K mg base k "sons_taken" ["layout", "other", "sons", "images"] (spST n)) :
    FnOk P w K mg base CX0 (k + 1) D.f D.fd ["layout", "other", "node", "images"] (spNT (n + 1)) := by
  refine fn_spec D.F sc_node_taken (fun _ => rfl) fun cdv A outer s H E hr => ?_
  have h64 := hr.units
  refine ⟨_, (pss_cons (ps_if (PW.pt (pw_and (pt_val (k_call C_is_row_of hr (by rfl) (pa_cons (pv 2) (pa_cons pe_int pa_nil)))) (pw_and1 (pt_cmpR op_eq (pe_ix (k_ixT K) (pv 2) pe_int (fun _ _ => rfl)) pe_str (nomark _)))))
(pss_cons (ps_ret (k_call C_trace_taken hr (by rfl) (pa_cons (pv 0) (pa_cons (pv 1) (pa_cons (pe_ix (k_ixT K) (pv 2) pe_int (fun _ _ => rfl)) (pa_cons (pv 3) pa_nil))))))
 pss_nil)
pss_nil)
 (pss_cons (ps_if (PW.pt (pw_or (pt_not (pt_val (k_call C_is_row_of hr (by rfl) (pa_cons (pv 2) (pa_cons pe_int pa_nil))))) (pw_or (pt_cmpR op_ne (pe_ix (k_ixT K) (pv 2) pe_int (fun _ _ => rfl)) pe_str (nomark _)) (pw_or1 (pt_not (pt_val (k_call C_is_whole hr (by rfl) (pa_cons (pe_ix (k_ixT K) (pv 2) pe_int (fun _ _ => rfl)) pa_nil))))))))
(pss_cons (ps_ret pe_bl)
 pss_nil)
pss_nil)
 (pss_cons (ps_if (PW.pt (pw_or (pt_cmpR op_ne (pe_ix (k_ixT K) (pv 2) pe_int (fun _ _ => rfl)) (pe_callB (k_len K) (by rfl) B.len (by decide +kernel) (pa_cons (pv 3) pa_nil)) (nomark _)) (pw_or1 (pt_cmpR op_ge (pe_ix (k_ixT K) (pv 2) pe_int (fun _ _ => rfl)) (pe_ix (k_ixT K) (pv 0) pe_int (fun _ _ => rfl)) (nomark _)))))
(pss_cons (ps_ret pe_bl)
 pss_nil)
pss_nil)
 (pss_cons (ps_ret (k_call C_sons_taken hr (by rfl) (pa_cons (pv 0) (pa_cons (pv 1) (pa_cons (pe_ix (k_ixT K) (pv 2) pe_int (fun _ _ => rfl)) (pa_cons (pv 3) pa_nil))))))
 pss_nil)))), fun a w0 Q ⟨pre, fu⟩ ret => ?_⟩
  obtain ⟨M, N, nd, im⟩ := a
  have gM : GoodL M := pre.gM
  have gN : GoodL N := pre.gN
  have gi : GoodIm N.1 im := pre.gi
  have hlo : 1 ≤ N.1 := gN.lo
  have hhi : N.1 ≤ 5 := gN.hi
  have hil := gi.len (by omega)
  cases nd with
  | tr t =>
    have vo : ∀ {Γ : Ctx}, Γ.s[2]? = some (some ⟨rNd, .tr t⟩) → EE (tVar 2) Γ (rP rStr rTr) ("trace", t) := fun h => ee_trOut (ee_var h)
    refine go_when (b := true) (ET.is (et_and (et_test (ee_call (2, 2) (ea_cons (ee_rowP (vo rfl)) (ea_cons ee_int ea_nil)) trivial)) fun _ => et_B (ee_eqS (ee_fst (vo rfl)) ee_str)) (by simp)) (fun _ => ?_) (fun h => nomatch h)
    exact go_ret (EE.is (ee_call (M, N, t, im) (ea_cons (ee_var rfl) (ea_cons (ee_var rfl) (ea_cons (ee_snd (vo rfl)) (ea_cons (ee_var rfl) ea_nil)))) ⟨gM.few, gN.few, by show im.length ≤ 1000; omega⟩) (by show traceOk M N t im = taken M N (.tr t) im; unfold taken; rfl)) ret
  | nx kk sons =>
    have vo : ∀ {Γ : Ctx}, Γ.s[2]? = some (some ⟨rNd, .nx kk sons⟩) → EE (tVar 2) Γ (rP3 rStr rInt (rT (rP rInt rNd))) ("next", kk, sons) := fun h => ee_nxOut (ee_var h)
    have et : taken M N (.nx kk sons) im = ((decide (kk = (im.length : Int)) && decide (kk < M.1)) && sonsB M N sons im) := by
      unfold taken sonsB
      rfl
    refine go_when (b := false) (ET.is (et_and (b := false) (et_test (ee_call (3, 2) (ea_cons (ee_rowP3 (vo rfl)) (ea_cons ee_int ea_nil)) trivial)) fun h => by simp at h) (by simp)) (fun h => nomatch h) (fun _ => ?_)
    refine go_when (b := false) (ET.is (et_or (et_not (et_test (ee_call (3, 3) (ea_cons (ee_rowP3 (vo rfl)) (ea_cons ee_int ea_nil)) trivial))) fun _ => et_or (et_B (ee_neS (ee_3_0 (vo rfl)) ee_str)) fun _ => et_not (et_test (ee_call kk (ea_cons (ee_3_1 (vo rfl)) ea_nil) trivial))) (by simp)) (fun h => nomatch h) (fun _ => ?_)
    refine go_when (ET.is (et_or (et_B (ee_neI (ee_3_1 (vo rfl)) (ee_lenL (ee_var (a := im) rfl)))) fun _ => et_B (ee_I0 (T := rBool) (c := decide (M.1 ≤ kk)) (ee_3_1 (vo rfl)) (ee_fst (ee_var (a := M) rfl)) fun _ => rfl)) (show _ = !(decide (kk = (im.length : Int)) && decide (kk < M.1)) by
      rw [Bool.not_and]
      congr 1
      rw [← decide_not]
      exact decide_eq_decide.mpr (by omega))) (fun h => ?_) (fun h => ?_)
    · refine go_ret (EE.is ee_bl ?_) ret
      show false = taken M N (.nx kk sons) im
      have h : (decide (kk = (im.length : Int)) && decide (kk < M.1)) = false := by
        rw [Bool.not_eq_true'] at h
        exact h
      rw [et, h]
      rfl
    · have h : (decide (kk = (im.length : Int)) && decide (kk < M.1)) = true := by
        rw [Bool.not_eq_false'] at h
        exact h
      refine go_ret (EE.is (ee_call (M, N, sons, im) (ea_cons (ee_var rfl) (ea_cons (ee_var rfl) (ea_cons (ee_3_2 (vo rfl)) (ea_cons (ee_var rfl) ea_nil)))) ⟨⟨gM, gN, gi⟩, fu⟩) ?_) ret
      show sonsB M N sons im = taken M N (.nx kk sons) im
      rw [et, h]
      rfl
theorem ok_nodes (DN : Dn K mg "node_taken" st_node_taken ["layout", "other", "node", "images"]) (DS : Dn K mg "sons_taken" st_sons_taken ["layout", "other", "sons", "images"]) (B : Blt mg) (C1 : Cal P w K mg base k "is_whole" ["thing"] spWhole) (C2 : Cal P w K mg base k "is_row_of" ["thing", "many"] spIsRow)
    (C3 : Cal P w K mg base k "trace_taken" ["layout", "other", "trace", "images"] spTrace) : ∀ n : Nat, FnOk P w K mg base CX0 (k + 2 * n) DN.f DN.fd ["layout", "other", "node", "images"] (spNT n)
  | 0 => fn_none fun a ⟨h, h2⟩ => by
    have := h.gi.len (by have := h.gN.lo; omega)
    omega
  | n + 1 => by
    have ih := ok_nodes DN DS B C1 C2 C3 n
    have hS := ok_sons_taken DS B (C1.up (show k ≤ k + 2 * n by omega)) (DN.cal ih)
    exact ok_node_taken DN B (C1.up (show k ≤ k + 2 * n + 1 by omega)) (C2.up (show k ≤ k + (2 * n + 1) by omega)) (C3.up (show k ≤ k + (2 * n + 1) by omega)) (DS.cal hS)
-- slots of apart_taken: 0 layout, 1 other, 2 paper, 3 word
abbrev spApart : Sp := spec (fun a : Lay × Lay × Pap => [⟨rLay, a.1⟩, ⟨rLay, a.2.1⟩, ⟨rPap, a.2.2⟩]) (fun a => GoodL a.1 ∧ GoodL a.2.1) rBool (fun a => apartB a.1 a.2.1 a.2.2)
theorem ok_apart_taken (D : Dn K mg "apart_taken" st_apart_taken ["layout", "other", "paper"]) (B : Blt mg) (gW : mg "WORDS" = some (.ref aW)) (hW : ∀ H, SqT K H aW (WORDS.map V.str)) (C_is_row_of : Cal P w K mg base k "is_row_of" ["thing", "many"] spIsRow)
    (C_counts_by : Cal P w K mg base k "counts_by" ["layout", "word"] (spCounts K)) (C_node_taken : Cal P w K mg base k "node_taken" ["layout", "other", "node", "images"] (spNT 6)) :
    FnOk P w K mg base CX0 (k + 1) D.f D.fd ["layout", "other", "paper"] spApart := by
  refine fn_spec D.F sc_apart_taken (fun _ => rfl) fun cdv A outer s H E hr => ?_
  have h64 := hr.units
  refine ⟨_, (pss_cons (ps_if (pt_not (pt_val (k_call C_is_row_of hr (by rfl) (pa_cons (pv 2) (pa_cons pe_int pa_nil)))))
(pss_cons (ps_ret pe_bl)
 pss_nil)
pss_nil)
 (pss_cons (ps_if (pt_cmpR op_eq (pe_ix (k_ixT K) (pv 2) pe_int (fun _ _ => rfl)) pe_str (nomark _))
(pss_cons (ps_set (i := 3) sc_apart_taken.nd rfl (Or.inl rfl) (pe_ix (k_ixT K) (pv 2) pe_int (fun _ _ => rfl)))
 (pss_cons (ps_ret (pe_and (pe_callB (k_isi K) (by rfl) B.isinstance (by decide +kernel) (pa_cons (pv 3) (pa_cons (pe_bltn (v := .ty "str") (by rfl) B.str (by decide +kernel) rfl) pa_nil))) (pe_and (pe_cmpR (k_in K) (pv 3) (pe_glob (v := .ref aW) (by rfl) gW rfl) (by rfl)) (pe_one (pe_cmpR (k_neD K h64) (k_call C_counts_by hr (by rfl) (pa_cons (pv 0) (pa_cons (pv 3) pa_nil))) (k_call C_counts_by hr (by rfl) (pa_cons (pv 1) (pa_cons (pv 3) pa_nil))) (nomark _))))))
 pss_nil))
pss_nil)
 (pss_cons (ps_ret (pe_and (pe_cmpR op_eq (pe_ix (k_ixT K) (pv 2) pe_int (fun _ _ => rfl)) pe_str (nomark _)) (pe_one (k_call C_node_taken hr (by rfl) (pa_cons (pv 0) (pa_cons (pv 1) (pa_cons (pe_ix (k_ixT K) (pv 2) pe_int (fun _ _ => rfl)) (pa_cons (pe_lst pa_nil) pa_nil))))))))
 pss_nil))), fun a w0 Q ⟨gM, gN⟩ ret => ?_⟩
  obtain ⟨M, N, p⟩ := a
  have gM : GoodL M := gM
  have gN : GoodL N := gN
  have hhi : N.1 ≤ 5 := gN.hi
  cases p with
  | cnt wd =>
    have vo : ∀ {Γ : Ctx}, Γ.s[2]? = some (some ⟨rPap, .cnt wd⟩) → EE (tVar 2) Γ (rP rStr rStr) ("count", wd) := fun h => ee_cnt.mp (ee_var h)
    refine go_when (b := false) (ET.is (et_not (et_test (ee_call (2, 2) (ea_cons (ee_rowP (vo rfl)) (ea_cons ee_int ea_nil)) trivial))) (by simp)) (fun h => nomatch h) (fun _ => ?_)
    refine go_when (b := true) (ET.is (et_B (ee_eqS (ee_fst (vo rfl)) ee_str)) (by simp)) (fun _ => ?_) (fun h => nomatch h)
    refine go_asg (R := rStr) (a := wd) (ee_snd (vo rfl)) ?_
    exact go_ret (EE.is (ee_andV (ee_isi (b := true) (ee_var (a := wd) rfl) ty_str (by rfl)) fun _ => ee_andV (ee_inW (ee_var (a := wd) rfl) (ee_c (R := rWords K) fun H => ⟨aW, rfl, hW H⟩)) fun _ => ee_neDat (ee_call (M, wd) (ea_cons (ee_var rfl) (ea_cons (ee_var rfl) ea_nil)) gM) (ee_call (N, wd) (ea_cons (ee_var rfl) (ea_cons (ee_var rfl) ea_nil)) gN) (shaped_counts _ _) (shaped_counts _ _)) (by rw [Bool.true_and]; rfl)) ret
  | tre nd =>
    have vo : ∀ {Γ : Ctx}, Γ.s[2]? = some (some ⟨rPap, .tre nd⟩) → EE (tVar 2) Γ (rP rStr rNd) ("tree", nd) := fun h => ee_tre.mp (ee_var h)
    refine go_when (b := false) (ET.is (et_not (et_test (ee_call (2, 2) (ea_cons (ee_rowP (vo rfl)) (ea_cons ee_int ea_nil)) trivial))) (by simp)) (fun h => nomatch h) (fun _ => ?_)
    refine go_when (b := false) (ET.is (et_B (ee_eqS (ee_fst (vo rfl)) ee_str)) (by show decide (("tree" : Str) = ("count" : Str)) = false; decide)) (fun h => nomatch h) (fun _ => ?_)
    refine go_ret (EE.is (ee_andV (ee_eqS (ee_fst (vo rfl)) ee_str) fun _ => ee_call (M, N, nd, []) (ea_cons (ee_var rfl) (ea_cons (ee_var rfl) (ea_cons (ee_snd (vo rfl)) (ea_cons (ee_lst eas_nil (by show 0 ≤ 100000; decide)) ea_nil)))) ⟨⟨gM, gN, GoodIm.nil⟩, ?_⟩) ?_) ret
    · show N.1 - (([] : List Int).length : Int) < 6
      simp
      omega
    · simp [apartB]
end
end EM

set_option Elab.async false
set_option linter.all false
set_option maxRecDepth 100000
set_option maxHeartbeats 2000000
/-! EmD5: the law's own numbers, rows, masks, layouts. -/
namespace EM
open PySem PySem.Spec PyProof.Rows L2 Evl
section
variable {P : Program} {w : World} {K : PySem.W.Frag} {mg : Str → Option Value} {base : Heap} {k : Nat} {aW : Addr}
-- slots of _law_cell: 0 _law_script, 1 _law_k, 2 _law_state, 3 _law_cell_here
abbrev rIntX : Rel Unit := rEx (fun _ : Int => True) rInt
def cellStep (s c : Int) : Int := (s * 69621 + c) % 2147483647
theorem cell_bound : ∀ (l : List Int) (s : Int), 0 ≤ s ∧ s < 2147483647 → 0 ≤ l.foldl cellStep s ∧ l.foldl cellStep s < 2147483647
  | [], _, h => h
  | c :: l, s, h => cell_bound l _ (by unfold cellStep; omega)
theorem fold_at {α β : Type} {f : β → α → β} {s : β} {l : List α} {i : Nat} {a : α} (h : l[i]? = some a) : (l.take (i + 1)).foldl f s = f ((l.take i).foldl f s) a := by rw [take_succ_at h, List.foldl_append]; rfl
abbrev spCell (K : PySem.W.Frag) : Sp := spec (fun a : List Int × Int => [⟨rScr K, a.1⟩, ⟨rInt, a.2⟩]) (fun a => 0 ≤ a.2 ∧ a.2 ≤ 4) rIntX (fun _ => ())
theorem cmul_small {i j : Int} (h : -1000000000000 ≤ i ∧ i ≤ 1000000000000) : CMul i j := .inl ⟨by omega, by omega⟩
theorem ok__law_cell (D : Dn K mg "_law_cell" st__law_cell ["_law_script", "_law_k"]) (B : Blt mg) : FnOk P w K mg base CX0 (k + 1) D.f D.fd ["_law_script", "_law_k"] (spCell K) := by
  refine fn_spec D.F sc__law_cell (fun _ => rfl) fun cdv A outer s H E hr => ?_
  have h64 := hr.units
  refine ⟨_, (pss_cons (ps_if (pt_cmpR op_lt (pv 1) (pe_callB (k_len K) (by rfl) B.len (by decide +kernel) (pa_cons (pv 0) pa_nil)) (nomark _))
(pss_cons (ps_ret (pe_ix (k_ixL K) (pv 0) (pv 1) (fun _ _ => rfl)))
 pss_nil)
pss_nil)
 (pss_cons (ps_set (i := 2) sc__law_cell.nd rfl (Or.inl rfl) (pe_op op_mod (pe_op op_mul pe_int (pe_op op_add (pe_op op_add (pe_op op_mul (pv 1) (pv 1)) (pe_op op_mul pe_int (pv 1))) pe_int)) pe_int))
 (pss_cons (ps_for PassesOwn.never rfl (k_iL K (pe_slice (k_sl K) (pv 0) po_none (po_some pe_int))) (pg_name (i := 3) sc__law_cell.nd rfl (Or.inl rfl))
(pss_cons (ps_set (i := 2) sc__law_cell.nd rfl (Or.inl rfl) (pe_op op_mod (pe_op op_add (pe_op op_mul (pv 2) pe_int) (pv 3)) pe_int))
 pss_nil))
 (pss_cons (ps_ret (pv 2))
 pss_nil)))), fun a w0 Q ⟨h0, h4⟩ ret => ?_⟩
  obtain ⟨ns, kk⟩ := a
  have h0 : 0 ≤ kk := h0
  have h4 : kk ≤ 4 := h4
  refine go_when (et_B (ee_I0 (T := rBool) (c := decide (kk < (ns.length : Int))) (ee_var (a := kk) rfl) (ee_lenS (ee_var (a := ns) rfl)) fun _ => rfl)) (fun h => ?_) (fun _ => ?_)
  · have h := of_decide_eq_true h
    exact go_ret (EE.ex (ee_ixS (ee_var (a := ns) rfl) (ee_var (a := kk) rfl) h0 (List.getElem?_eq_getElem (show kk.toNat < ns.length by omega))) trivial) ret
  have hk : kk * kk ≤ 4 * 4 := Int.mul_le_mul h4 h4 h0 (by decide)
  have hk0 : 0 ≤ kk * kk := Int.mul_nonneg h0 h0
  have sb : 0 ≤ 48271 * (kk * kk + 7 * kk + 11) % 2147483647 ∧ 48271 * (kk * kk + 7 * kk + 11) % 2147483647 < 2147483647 := by omega
  refine go_asg (R := rInt) (a := 48271 * (kk * kk + 7 * kk + 11) % 2147483647) (ee_I (ee_I (T := rInt) ee_int (ee_I0 (T := rInt) (ee_I0 (T := rInt) (ee_I (T := rInt) (ee_var (a := kk) rfl) (ee_var (a := kk) rfl) (cmul_small (by omega)) fun _ => rfl) (ee_I (T := rInt) ee_int (ee_var (a := kk) rfl) (cmul_small (by omega)) fun _ => rfl) fun _ => rfl) ee_int fun _ => rfl) (cmul_small (by omega)) fun _ => rfl) ee_int (by decide) fun _ => rfl) ?_
  refine go_for (as := cutG ns none (some 3)) (R := rInt) (fun i => ⟨[some ⟨rScr K, ns⟩, some ⟨rInt, kk⟩, some ⟨rInt, ((cutG ns none (some 3)).take i).foldl cellStep (48271 * (kk * kk + 7 * kk + 11) % 2147483647)⟩, none], none⟩) (fun _ => True)
    (fun i c => ⟨[some ⟨rScr K, ns⟩, some ⟨rInt, kk⟩, some ⟨rInt, ((cutG ns none (some 3)).take i).foldl cellStep (48271 * (kk * kk + 7 * kk + 11) % 2147483647)⟩, some ⟨rInt, c⟩], none⟩) (ei_list (ee_sliceS (ee_var (a := ns) rfl) eo_none (eo_some ee_int))) trivial (fun _ _ _ => eg_name) (fun _ _ => Keep.none rfl) (fun B2 i c hc _ => ?_) (fun _ => ?_)
  · have b := cell_bound ((cutG ns none (some 3)).take i) _ sb
    refine go_asg (R := rInt) (a := ((cutG ns none (some 3)).take (i + 1)).foldl cellStep (48271 * (kk * kk + 7 * kk + 11) % 2147483647)) (EE.is (ee_I (T := rInt) (c := cellStep (((cutG ns none (some 3)).take i).foldl cellStep (48271 * (kk * kk + 7 * kk + 11) % 2147483647)) c) (ee_I0 (T := rInt) (ee_I (T := rInt) (ee_var rfl) ee_int (cmul_small (by omega)) fun _ => rfl) (ee_var (a := c) rfl) fun _ => rfl) ee_int (by decide) fun _ => rfl) (fold_at hc).symm) ?_
    exact go_turn trivial (.keep (.keep (.keep (.drop .nil)))) rfl
  · exact go_ret (EE.ex (ee_var (R := rInt) rfl) trivial) ret
-- slots of _law_numbers: 0 _law_cell_here, 1 _law_many, 2 _law_found, 3 _law_state, 4 _law_digits, 5 _law_k
def NumOk (m : Nat) (xs : List Int) : Prop := xs.length = m ∧ ∀ x ∈ xs, 0 ≤ x ∧ x < 1999999973
def nSt (c : Int) : Nat → Int
  | 0 => (c % 1999999973 + 31) * 765432101 % 1999999973
  | i + 1 => (nSt c i * (nSt c i % 65521 + 40487) + 7 * (i : Int) + 5) % 1999999973
def nDg (d : Int) : Nat → Int
  | 0 => d
  | i + 1 => nDg d i / 1000000
def nIt (c d : Int) (i : Nat) : Int := if 0 < nDg d i then nDg d i % 1000000 else nSt c (i + 1)
theorem nSt_bound (c : Int) : ∀ i, 0 ≤ nSt c i ∧ nSt c i < 1999999973
  | 0 => by unfold nSt; omega
  | i + 1 => by
    unfold nSt
    exact ⟨Int.emod_nonneg _ (by decide), Int.emod_lt_of_pos _ (by decide)⟩
theorem nIt_bound (c d : Int) (i : Nat) : 0 ≤ nIt c d i ∧ nIt c d i < 1999999973 := by
  unfold nIt
  split
  · omega
  · exact nSt_bound c _
theorem rng_get {n : Int} {i : Nat} {y : Int} (h : (rng n)[i]? = some y) : y = (i : Int) := by
  have hl := (List.getElem?_eq_some_iff.mp h).1
  rw [rng_len] at hl
  rw [rng_at (by omega)] at h
  exact (Option.some.inj h).symm
def nLs (c d : Int) (m i : Nat) : List Int := ((rng (m : Int)).take i).map fun k => nIt c d k.toNat
theorem nLs_ok (c d : Int) (m : Nat) : NumOk m (nLs c d m m) := by
  unfold nLs
  rw [List.take_of_length_le (by rw [rng_len]; omega)]
  refine ⟨by rw [List.length_map, rng_len]; omega, fun x hx => ?_⟩
  obtain ⟨k, _, rfl⟩ := List.mem_map.mp hx
  exact nIt_bound _ _ _
abbrev spNum : Sp := spec (fun m : Nat => [⟨rIntX, ()⟩, ⟨rInt, (m : Int)⟩]) (fun m => m ≤ 1000) (rBy NumOk (rL rInt)) id
theorem ok__law_numbers (D : Dn K mg "_law_numbers" st__law_numbers ["_law_cell_here", "_law_many"]) (B : Blt mg) : FnOk P w K mg base CX0 (k + 1) D.f D.fd ["_law_cell_here", "_law_many"] spNum := by
  refine fn_spec D.F sc__law_numbers (fun _ => rfl) fun cdv A outer s H E hr => ?_
  have h64 := hr.units
  refine ⟨_, (pss_cons (ps_set (i := 2) sc__law_numbers.nd rfl (Or.inl rfl) (pe_lst pa_nil))
 (pss_cons (ps_set (i := 3) sc__law_numbers.nd rfl (Or.inl rfl) (pe_op op_mod (pe_op op_mul (pe_op op_add (pe_op op_mod (pv 0) pe_int) pe_int) pe_int) pe_int))
 (pss_cons (ps_set (i := 4) sc__law_numbers.nd rfl (Or.inl rfl) pe_int)
 (pss_cons (ps_if (PW.pt (pw_or (pt_cmpR op_lt (pv 0) pe_int (nomark _)) (pw_or1 (pt_cmpR op_ge (pv 0) (pe_op op_pow pe_int pe_int) (nomark _)))))
(pss_cons (ps_set (i := 4) sc__law_numbers.nd rfl (Or.inl rfl) (pe_callB k_abs (by rfl) B.abs (by decide +kernel) (pa_cons (pv 0) pa_nil)))
 pss_nil)
pss_nil)
 (pss_cons (ps_for PassesOwn.never rfl (pi_range1 (by rfl) B.range (pa_cons (pv 1) pa_nil)) (pg_name (i := 5) sc__law_numbers.nd rfl (Or.inl rfl))
(pss_cons (ps_set (i := 3) sc__law_numbers.nd rfl (Or.inl rfl) (pe_op op_mod (pe_op op_add (pe_op op_add (pe_op op_mul (pv 3) (pe_op op_add (pe_op op_mod (pv 3) pe_int) pe_int)) (pe_op op_mul pe_int (pv 5))) pe_int) pe_int))
 (pss_cons (ps_expr (k_bm K PySem.F.plainAttrs_list PySem.F.slot_list_append PySem.F.type_list_append mt_append (pv 2) (pa_cons (pe_ix (k_ixL K) (pe_lst (pa_cons (pv 3) (pa_cons (pe_op op_mod (pv 4) pe_int) pa_nil))) (pe_callTy k_int1 (by rfl) B.int (by decide +kernel) (pa_cons (pe_cmpR op_gt (pv 4) pe_int (nomark _)) pa_nil)) (fun _ _ => rfl)) pa_nil)))
 (pss_cons (ps_set (i := 4) sc__law_numbers.nd rfl (Or.inl rfl) (pe_op op_fdiv (pv 4) pe_int))
 pss_nil))))
 (pss_cons (ps_ret (pv 2))
 pss_nil)))))), fun m w0 Q hm ret => ?_⟩
  have hm : m ≤ 1000 := hm
  refine go_open (P := fun _ : Int => True) (R := rInt) (i := 0) (v := ()) rfl fun c _ => ?_
  refine go_ownL rInt (by show 2 < 6; decide) ?_
  refine go_asg (R := rInt) (a := nSt c 0) (ee_I (T := rInt) (ee_I (T := rInt) (ee_I0 (T := rInt) (ee_I (T := rInt) (ee_var (a := c) rfl) ee_int (by decide) fun _ => rfl) ee_int fun _ => rfl) ee_int (cmul_small (by omega)) fun _ => rfl) ee_int (by decide) fun _ => rfl) ?_
  refine go_asg (R := rInt) (a := 0) ee_int ?_
  refine go_join (fun d : Int => ⟨[some ⟨rInt, c⟩, some ⟨rInt, (m : Int)⟩, none, some ⟨rInt, nSt c 0⟩, some ⟨rInt, d⟩, none], some (2, ownL rInt [])⟩) (fun d => ?_) (et_or (et_B (ee_I0 (T := rBool) (c := decide (c < 0)) (ee_var (a := c) rfl) ee_int fun _ => rfl)) fun _ => et_B (ee_I0 (T := rBool) (ee_var (a := c) rfl) (ee_I (T := rInt) ee_int ee_int ⟨by decide, by decide, by decide⟩ fun _ => rfl) fun _ => rfl)) (fun _ k => go_asg (R := rInt) (ee_abs (ee_var (a := c) rfl)) (go_next (k _))) (fun _ k => k 0)
  refine go_for (as := rng (m : Int)) (R := rInt) (fun i => ⟨[some ⟨rInt, c⟩, some ⟨rInt, (m : Int)⟩, none, some ⟨rInt, nSt c i⟩, some ⟨rInt, nDg d i⟩, none], some (2, ownL rInt (nLs c d m i))⟩) (fun _ => True)
    (fun i y => ⟨[some ⟨rInt, c⟩, some ⟨rInt, (m : Int)⟩, none, some ⟨rInt, nSt c i⟩, some ⟨rInt, nDg d i⟩, some ⟨rInt, y⟩], some (2, ownL rInt (nLs c d m i))⟩) (ei_range (ee_var rfl) (by omega) (by omega)) trivial (fun _ _ _ => eg_name) (fun _ _ => keepO rfl rfl rfl) (fun B2 i y hy _ => ?_) (fun _ => ?_)
  · have ey := rng_get hy
    subst ey
    have b := nSt_bound c i
    have hil : i < m := by
      have := (List.getElem?_eq_some_iff.mp hy).1
      rw [rng_len] at this
      omega
    refine go_asg (R := rInt) (a := nSt c (i + 1)) (ee_I (T := rInt) (ee_I0 (T := rInt) (ee_I0 (T := rInt) (ee_I (T := rInt) (ee_var (a := nSt c i) rfl) (ee_I0 (T := rInt) (ee_I (T := rInt) (ee_var (a := nSt c i) rfl) ee_int (by decide) fun _ => rfl) ee_int fun _ => rfl) (cmul_small (by omega)) fun _ => rfl) (ee_I (T := rInt) ee_int (ee_var (a := (i : Int)) rfl) (cmul_small (by omega)) fun _ => rfl) fun _ => rfl) ee_int fun _ => rfl) ee_int (by decide) fun _ => rfl) ?_
    refine go_append (R := rInt) (a := nIt c d i) rfl (EE.is (a := if 0 < nDg d i then nDg d i % 1000000 else nSt c (i + 1)) (ee_ixL (as := [nSt c (i + 1), nDg d i % 1000000]) (ee_lst (eas_cons (ee_var rfl) (eas_cons (ee_I (T := rInt) (ee_var (a := nDg d i) rfl) ee_int (by decide) fun _ => rfl) eas_nil)) (by show 2 ≤ 100000; decide)) (ee_intB (ee_I0 (T := rBool) (c := decide (0 < nDg d i)) (ee_var (a := nDg d i) rfl) ee_int fun _ => rfl)) ?_ ?_) rfl) ?_ ?_
    · split <;> decide
    · by_cases q : 0 < nDg d i <;> simp [q]
    · unfold nLs
      rw [List.length_map, List.length_take, rng_len]
      omega
    · refine go_eqO (bs := nLs c d m (i + 1)) (by unfold nLs; rw [map_take_at hy, Int.toNat_natCast]) ?_
      refine go_asg (R := rInt) (a := nDg d (i + 1)) (ee_I (T := rInt) (ee_var (a := nDg d i) rfl) ee_int ⟨by decide, by decide⟩ fun _ => rfl) ?_
      exact go_turn trivial (.keep (.keep (.keep (.keep (.keep (.drop .nil)))))) rfl
  · refine go_fixL rfl (by show 2 < 6; decide) ?_
    refine go_ret (ee_by (F := NumOk) (b := m) (ee_var rfl) ?_) ret
    rw [rng_len, Int.toNat_natCast]
    exact nLs_ok c d m
-- slots of _law_row: 0 _law_xs, 1 _law_many, 2 _law_k, 3 _law_pair
theorem row_of_perm {n : Int} {r : List Int} (h : r.Perm (rng n)) (h0 : 0 ≤ n) : IsRow n r :=
  ⟨⟨h.nodup_iff.mpr (rng_nodup n), fun x hx => mem_rng.mp (h.mem_iff.mp hx)⟩, by rw [h.length_eq, rng_len]; omega⟩
abbrev spLRow : Sp := spec (fun n : Int => [⟨rEx (fun xs : List Int => xs.length = 5) (rL rInt), ()⟩, ⟨rInt, n⟩]) (fun n => 1 ≤ n ∧ n ≤ 5) (rBy IsRow (rL rInt)) id
theorem ok__law_row (D : Dn K mg "_law_row" st__law_row ["_law_xs", "_law_many"]) (B : Blt mg) : FnOk P w K mg base CX0 (k + 1) D.f D.fd ["_law_xs", "_law_many"] spLRow := by
  refine fn_spec D.F sc__law_row (fun _ => rfl) fun cdv A outer s H E hr => ?_
  have h64 := hr.units
  refine ⟨_, (pss_cons (ps_ret (pe_lc (own := [("_law_pair", 3)]) rfl sc__law_row.nd (k_iL K (pe_callB (k_sortP K) (by rfl) B.sorted (by decide +kernel) (pa_cons (pe_lc (own := [("_law_k", 2)]) rfl sc__law_row.nd (pi_range1 (by rfl) B.range (pa_cons (pv 1) pa_nil)) (blkOk_by (by kernel_rfl)) (fun _ _ _ _ _ => (pg_name (i := 2) sc__law_row.nd rfl (by first | exact Or.inl rfl | exact Or.inr rfl))) (fun _ _ _ _ _ => pts_nil) (fun _ _ _ _ _ => (pe_tup (pa_cons (pe_ix (k_ixL K) (pv 0) (pv 2) (fun _ _ => rfl)) (pa_cons (pv 2) pa_nil))))) pa_nil))) (blkOk_by (by kernel_rfl)) (fun _ _ _ _ _ => (pg_name (i := 3) sc__law_row.nd rfl (by first | exact Or.inl rfl | exact Or.inr rfl))) (fun _ _ _ _ _ => pts_nil) (fun _ _ _ _ _ => (pe_ix (k_ixT K) (pv 3) pe_int (fun _ _ => rfl)))))
 pss_nil), fun n w0 Q ⟨hlo, hhi⟩ ret => ?_⟩
  refine go_open (P := fun xs : List Int => xs.length = 5) (R := rL rInt) (i := 0) (v := ()) rfl fun xs hx => ?_
  refine go_ret (EE.imp (S := rBy IsRow (rL rInt)) (b := n) (ee_lcB (R := rP rInt rInt) (S := rInt) (F := fun bs => bs.Perm ((rng n).map fun y => (xs.getD y.toNat 0, y))) (Γ' := fun a => Ctx.set ⟨[some ⟨rL rInt, xs⟩, some ⟨rInt, n⟩, none, none], none⟩ 3 (rP rInt rInt) a) (fun z : Int × Int => z.2)
    (eib_list (F := fun as bs => bs.Perm as) (b := (rng n).map fun y => (xs.getD y.toNat 0, y)) (ee_sortP (ee_lcA (S := rP rInt rInt) (fun y : Int => (xs.getD y.toNat 0, y)) (ei_range (ee_var (a := n) rfl) (by omega) (by omega)) (clear1 rfl rfl) mem1 (fun a _ => eg_name) (fun y hy => ee_tup2 (ee_ixL (ee_var (a := xs) rfl) (ee_var (a := y) rfl) (mem_rng.mp hy).1 ?_) (ee_var (a := y) rfl)) (by rw [rng_len]; omega))))
    (clear1 rfl rfl) mem1 (fun a => eg_name) (fun as a _ _ => ee_snd (ee_var (a := a) rfl)) (fun as h => by rw [h.length_eq, List.length_map, rng_len]; omega)) ?_) ret
  · have := mem_rng.mp hy
    have hl : y.toNat < xs.length := by omega
    rw [List.getElem?_eq_getElem hl, List.getD_eq_getElem?_getD, List.getElem?_eq_getElem hl]
    rfl
  · rintro v H ⟨bs, ⟨as, hp, rfl⟩, r⟩
    refine ⟨_, row_of_perm ?_ (by omega), r⟩
    have q := hp.map (·.2)
    rw [List.map_map] at q
    have e : (rng n).map ((·.2) ∘ fun y : Int => (xs.getD y.toNat 0, y)) = rng n := by
      conv => rhs; rw [← List.map_id (rng n)]
      rfl
    rw [e] at q
    exact q
-- slots of _law_mask: 0 _law_x, 1 _law_many, 2 _law_point
def maskM (x n : Int) : List Int := (rng n).filter fun p => decide (Builtin.bitAnd (x / 2 ^ p.toNat) 1 = 1)
theorem rng_up (n : Int) : (rng n).Pairwise (· < ·) := by
  unfold rng
  rw [List.pairwise_map]
  exact List.pairwise_lt_range.imp fun h => by omega
theorem mask_good (x n : Int) : (maskM x n).Pairwise (· < ·) ∧ ∀ y ∈ maskM x n, 0 ≤ y ∧ y < n := by
  unfold maskM
  exact ⟨(rng_up n).filter _, fun y hy => mem_rng.mp (List.mem_filter.mp hy).1⟩
abbrev spMask : Sp := spec (fun a : Int × Int => [⟨rInt, a.1⟩, ⟨rInt, a.2⟩]) (fun a => 1 ≤ a.2 ∧ a.2 ≤ 5) (rT rInt) (fun a => maskM a.1 a.2)
theorem ok__law_mask (D : Dn K mg "_law_mask" st__law_mask ["_law_x", "_law_many"]) (B : Blt mg) : FnOk P w K mg base CX0 (k + 1) D.f D.fd ["_law_x", "_law_many"] spMask := by
  refine fn_spec D.F sc__law_mask (fun _ => rfl) fun cdv A outer s H E hr => ?_
  have h64 := hr.units
  refine ⟨_, (pss_cons (ps_ret (pe_callTy (k_tupof K) (by rfl) B.tuple (by decide +kernel) (pa_cons (pe_lc (own := [("_law_point", 2)]) rfl sc__law_mask.nd (pi_range1 (by rfl) B.range (pa_cons (pv 1) pa_nil)) (blkOk_by (by kernel_rfl)) (fun _ _ _ _ _ => (pg_name (i := 2) sc__law_mask.nd rfl (by first | exact Or.inl rfl | exact Or.inr rfl))) (fun _ _ _ _ _ => (pts_one (pt_cmpR op_eq (pe_op op_and (pe_op op_shr (pv 0) (pv 2)) pe_int) pe_int (nomark _)))) (fun _ _ _ _ _ => (pv 2))) pa_nil)))
 pss_nil), fun a w0 Q ⟨hlo, hhi⟩ ret => ?_⟩
  obtain ⟨x, n⟩ := a
  have hlo : 1 ≤ n := hlo
  have hhi : n ≤ 5 := hhi
  refine go_ret (EE.is (ee_tupL (ee_lc (S := rInt) (fun p : Int => decide (Builtin.bitAnd (x / 2 ^ p.toNat) 1 = 1)) id (ei_range (ee_var (a := n) rfl) (by omega) (by omega)) (clear1 rfl rfl) mem1 (fun a _ => eg_name) (fun p hp => et_B (ee_eqI (ee_I0 (T := rInt) (ee_I (T := rInt) (ee_var (a := x) rfl) (ee_var (a := p) rfl) (mem_rng.mp hp).1 fun _ => rfl) ee_int fun _ => rfl) ee_int)) (fun p _ _ => ee_var rfl) (by rw [rng_len]; omega))) (by rw [List.map_id]; rfl)) ret
-- slots of _law_renamed: 0 _law_layout, 1 _law_row_here, 2 _law_turn, 3 _law_many, 4 _law_blocks, 5 _law_block, 6 _law_point
theorem ren_good {n : Int} {r : List Int} (hr : IsRow n r) {b : Blk} (hb : b.Pairwise (· < ·) ∧ ∀ x ∈ b, 0 ≤ x ∧ x < n) : (ren r b).Pairwise (· < ·) ∧ ∀ x ∈ ren r b, 0 ≤ x ∧ x < n := by
  unfold ren
  constructor
  · refine isort_strict ?_
    have nd : b.Nodup := hb.1.imp fun h => by omega
    rw [List.Nodup, List.pairwise_map]
    refine nd.imp_of_mem fun {x y} hx hy hxy e => ?_
    have h1 := hb.2 x hx
    have h2 := hb.2 y hy
    exact hxy (row_inj hr h1.1 h1.2 h2.1 h2.2 e)
  · intro x hx
    obtain ⟨p, hp, rfl⟩ := List.mem_map.mp ((isort_perm _).mem_iff.mp hx)
    have h1 := hb.2 p hp
    exact hr.1.inr _ (List.mem_of_getElem? (row_getD hr h1.1 h1.2))
theorem cut_mem {α : Type} {l : List α} {lo hi : Option Int} {x : α} (h : x ∈ cutG l lo hi) : x ∈ l := List.mem_of_mem_drop (List.mem_of_mem_take h)
theorem cut_len {α : Type} (l : List α) {t : Int} (h0 : 0 ≤ t) : (cutG l (some t) none ++ cutG l none (some t)).length ≤ l.length := by
  have e : t = ((t.toNat : Nat) : Int) := by omega
  rw [e]
  unfold cutG
  rw [HT.sIx_nat, HT.sIx_none, HT.sIx_nat, HT.sIx_none, List.length_append, List.length_take, List.length_take, List.length_drop, List.length_drop]
  omega
theorem ee_ren {Γ : Ctx} {te : TE} {r : List Int} {b : Blk} {n : Int} {j v : Nat} (hr : IsRow n r) (hb : ∀ x ∈ b, 0 ≤ x ∧ x < n) (hl : b.length ≤ 1000) (hv : Γ.s[j]? = some (some ⟨rL rInt, r⟩)) (hc : Clear Γ [v]) (hj : (v == j) = false) (h : EE te Γ (rT rInt) b) (hlen : v < Γ.s.length) :
    EE (tCB (rTupS K) (tCons (tCB (rSortedI K) (tCons (tLc (iTup K te) (gName v) tYes (tOp (rIxL K) (tVar j) (tVar v)) [v]) tNil)) tNil)) Γ (rT rInt) (ren r b) := by
  have hne : v ≠ j := by simpa using hj
  refine ee_tupL (ee_sortI (ee_lcA (S := rInt) (Γ' := fun p => Γ.set v rInt p) (fun p : Int => r.getD p.toNat 0) (ei_tup h) hc mem1 (fun a _ => eg_name) (fun p hp => ?_) (by omega)))
  refine ee_ixL (as := r) (ee_var (R := rL rInt) ?_) (ee_var (R := rInt) (a := p) ?_) (hb p hp).1 (row_getD hr (hb p hp).1 (hb p hp).2)
  · show (Γ.s.set v _)[j]? = _
    rw [List.getElem?_set_ne hne]
    exact hv
  · show (Γ.s.set v _)[v]? = _
    rw [List.getElem?_set_self hlen]
theorem good_blk_len {M : Lay} (g : GoodL M) {b : Blk} (h : b ∈ M.2) : b.length ≤ 5 := by
  have q := g.blk b h
  have nd : b.Nodup := q.1.imp fun h => by omega
  have := nodup_len nd fun x hx => mem_rng.mpr (q.2 x hx)
  rw [rng_len] at this
  have := g.hi
  omega
abbrev spRen : Sp := spec (fun a : Lay × Int => [⟨rLay, a.1⟩, ⟨rBy IsRow (rL rInt), a.1.1⟩, ⟨rInt, a.2⟩]) (fun a => GoodL a.1) (rEx GoodL rLay) (fun _ => ())
theorem ok__law_renamed (D : Dn K mg "_law_renamed" st__law_renamed ["_law_layout", "_law_row_here", "_law_turn"]) (B : Blt mg) : FnOk P w K mg base CX0 (k + 1) D.f D.fd ["_law_layout", "_law_row_here", "_law_turn"] spRen := by
  refine fn_spec D.F sc__law_renamed (fun _ => rfl) fun cdv A outer s H E hr => ?_
  have h64 := hr.units
  refine ⟨_, (pss_cons (ps_asg (pv 0) (k_gT K (n := 2) (pgs_cons (pg_name (i := 3) sc__law_renamed.nd rfl (Or.inl rfl)) (pgs_cons (pg_name (i := 4) sc__law_renamed.nd rfl (Or.inl rfl)) pgs_nil))))
 (pss_cons (ps_setLc (i := 4) (own := [("_law_block", 5)]) rfl sc__law_renamed.nd rfl rfl (sw_true rfl rfl rfl (by decide +kernel)) (k_iT K (pv 4)) (blkOk_by (by kernel_rfl)) (fun _ _ _ _ _ => (pg_name (i := 5) sc__law_renamed.nd rfl (by first | exact Or.inl rfl | exact Or.inr rfl))) (fun _ _ _ _ _ => pts_nil) (fun _ _ _ _ _ => (pe_callTy (k_tupof K) (by rfl) B.tuple (by decide +kernel) (pa_cons (pe_callB (k_sortI K) (by rfl) B.sorted (by decide +kernel) (pa_cons (pe_lc (own := [("_law_point", 6)]) rfl sc__law_renamed.nd (k_iT K (pv 5)) (blkOk_by (by kernel_rfl)) (fun _ _ _ _ _ => (pg_name (i := 6) sc__law_renamed.nd rfl (by first | exact Or.inl rfl | exact Or.inr rfl))) (fun _ _ _ _ _ => pts_nil) (fun _ _ _ _ _ => (pe_ix (k_ixL K) (pv 1) (pv 6) (fun _ _ => rfl)))) pa_nil)) pa_nil))))
 (pss_cons (ps_set (i := 2) sc__law_renamed.nd rfl (Or.inl rfl) (pe_op op_mod (pv 2) (pe_callB k_max2 (by rfl) B.max (by decide +kernel) (pa_cons pe_int (pa_cons (pe_callB (k_len K) (by rfl) B.len (by decide +kernel) (pa_cons (pv 4) pa_nil)) pa_nil)))))
 (pss_cons (ps_ret (pe_tup (pa_cons (pv 3) (pa_cons (pe_callTy (k_tupof K) (by rfl) B.tuple (by decide +kernel) (pa_cons (pe_op op_cat (pe_slice (k_sl K) (pv 4) (po_some (pv 2)) po_none) (pe_slice (k_sl K) (pv 4) po_none (po_some (pv 2)))) pa_nil)) pa_nil))))
 pss_nil)))), fun a w0 Q gM ret => ?_⟩
  obtain ⟨M, t⟩ := a
  have gM : GoodL M := gM
  have hfew : M.2.length ≤ 6 := gM.few
  refine go_openB (F := IsRow) (R := rL rInt) (i := 1) (b := M.1) rfl fun r hrow => ?_
  refine go_tgt (ee_var (a := M) rfl) eg_pair (Keep.none rfl) ?_
  refine go_asg (R := rL (rT rInt)) (a := M.2.map (ren r)) (ee_lcA (S := rT rInt) (ren r) (ei_tup (ee_var (a := M.2) rfl)) (clear1 rfl rfl) mem1 (fun a _ => eg_name) (fun b hb => ee_ren hrow (gM.blk b hb).2 (by have := good_blk_len gM hb; omega) rfl (clear1 rfl rfl) rfl (ee_var (a := b) rfl) (by show _ < 7; decide)) (by omega)) ?_
  have hm : 0 < (if ((M.2.map (ren r)).length : Int) > 1 then ((M.2.map (ren r)).length : Int) else 1) := by split <;> omega
  refine go_asg (R := rInt) (a := t % (if ((M.2.map (ren r)).length : Int) > 1 then ((M.2.map (ren r)).length : Int) else 1)) (ee_I (T := rInt) (ee_var (a := t) rfl) (ee_max2 ee_int (ee_lenL (ee_var (a := M.2.map (ren r)) rfl))) hm fun _ => rfl) ?_
  have ht := Int.emod_nonneg t (show (if ((M.2.map (ren r)).length : Int) > 1 then ((M.2.map (ren r)).length : Int) else 1) ≠ 0 by omega)
  generalize t % (if ((M.2.map (ren r)).length : Int) > 1 then ((M.2.map (ren r)).length : Int) else 1) = u at ht
  have hcl := cut_len (M.2.map (ren r)) ht
  rw [List.length_map] at hcl
  refine go_ret (EE.ex (ee_tup2 (a := M.1) (ee_var rfl) (ee_tupL (ee_cat (ee_slice (ee_var (a := M.2.map (ren r)) rfl) (eo_some (ee_var (a := u) rfl)) eo_none) (ee_slice (ee_var (a := M.2.map (ren r)) rfl) eo_none (eo_some (ee_var (a := u) rfl))) (by rw [← List.length_append]; omega)))) ?_) ret
  refine ⟨gM.lo, gM.hi, by show (cutG _ _ _ ++ cutG _ _ _).length ≤ 6; omega, fun b hb => ?_⟩
  have hb : b ∈ M.2.map (ren r) := (List.mem_append.mp hb).elim cut_mem cut_mem
  obtain ⟨b0, hb0, rfl⟩ := List.mem_map.mp hb
  exact ren_good hrow (gM.blk b0 hb0)
-- slots of _law_leads: 0 _law_layout, 1 _law_row_here, 2 _law_other, 3 _law_blocks, 4 _law_block, 5 _law_point
abbrev spLeads : Sp := spec (fun a : Lay × List Int × Lay => [⟨rLay, a.1⟩, ⟨rL rInt, a.2.1⟩, ⟨rLay, a.2.2⟩]) (fun a => GoodL a.1 ∧ GoodL a.2.2 ∧ IsRow a.1.1 a.2.1) rBool (fun a => leadsB a.1 a.2.1 a.2.2)
theorem ok__law_leads (D : Dn K mg "_law_leads" st__law_leads ["_law_layout", "_law_row_here", "_law_other"]) (B : Blt mg) : FnOk P w K mg base CX0 (k + 1) D.f D.fd ["_law_layout", "_law_row_here", "_law_other"] spLeads := by
  refine fn_spec D.F sc__law_leads (fun _ => rfl) fun cdv A outer s H E hr => ?_
  have h64 := hr.units
  have h4 := un4 h64
  refine ⟨_, (pss_cons (ps_set (i := 3) sc__law_leads.nd rfl (Or.inl rfl) (pe_callB (k_sortT K h4) (by rfl) B.sorted (by decide +kernel) (pa_cons (pe_lc (own := [("_law_block", 4)]) rfl sc__law_leads.nd (k_iT K (pe_ix (k_ixT K) (pv 0) pe_int (fun _ _ => rfl))) (blkOk_by (by kernel_rfl)) (fun _ _ _ _ _ => (pg_name (i := 4) sc__law_leads.nd rfl (by first | exact Or.inl rfl | exact Or.inr rfl))) (fun _ _ _ _ _ => pts_nil) (fun _ _ _ _ _ => (pe_callTy (k_tupof K) (by rfl) B.tuple (by decide +kernel) (pa_cons (pe_callB (k_sortI K) (by rfl) B.sorted (by decide +kernel) (pa_cons (pe_lc (own := [("_law_point", 5)]) rfl sc__law_leads.nd (k_iT K (pv 4)) (blkOk_by (by kernel_rfl)) (fun _ _ _ _ _ => (pg_name (i := 5) sc__law_leads.nd rfl (by first | exact Or.inl rfl | exact Or.inr rfl))) (fun _ _ _ _ _ => pts_nil) (fun _ _ _ _ _ => (pe_ix (k_ixL K) (pv 1) (pv 5) (fun _ _ => rfl)))) pa_nil)) pa_nil)))) pa_nil)))
 (pss_cons (ps_ret (pe_and (pe_cmpR op_eq (pe_ix (k_ixT K) (pv 0) pe_int (fun _ _ => rfl)) (pe_ix (k_ixT K) (pv 2) pe_int (fun _ _ => rfl)) (nomark _)) (pe_one (pe_cmpR (k_eqD K h64) (pv 3) (pe_callB (k_sortTT K h4) (by rfl) B.sorted (by decide +kernel) (pa_cons (pe_ix (k_ixT K) (pv 2) pe_int (fun _ _ => rfl)) pa_nil)) (nomark _)))))
 pss_nil)), fun a w0 Q ⟨gM, gN, hrow⟩ ret => ?_⟩
  obtain ⟨M, r, N⟩ := a
  have gM : GoodL M := gM
  have gN : GoodL N := gN
  have hrow : IsRow M.1 r := hrow
  have hfM : M.2.length ≤ 6 := gM.few
  have hfN : N.2.length ≤ 6 := gN.few
  refine go_asg (R := rL (rT rInt)) (a := lsort (M.2.map (ren r))) (ee_sortT (ee_lcA (S := rT rInt) (ren r) (ei_tup (ee_snd (ee_var (a := M) rfl))) (clear1 rfl rfl) mem1 (fun a _ => eg_name) (fun b hb => ee_ren hrow (gM.blk b hb).2 (by have := good_blk_len gM hb; omega) rfl (clear1 rfl rfl) rfl (ee_var (a := b) rfl) (by show _ < 6; decide)) (by omega)) (by rw [List.length_map]; omega)) ?_
  exact go_ret (EE.is (ee_andV (ee_eqI (ee_fst (ee_var (a := M) rfl)) (ee_fst (ee_var (a := N) rfl))) fun _ => ee_eqLT (ee_var (a := lsort (M.2.map (ren r))) rfl) (ee_sortTT (ee_snd (ee_var (a := N) rfl)) (by omega))) rfl) ret
end
end EM

set_option Elab.async false
set_option linter.all false
set_option maxRecDepth 100000
set_option maxHeartbeats 2000000
/-! EmD6: all rows, small layouts, the two layouts, the law. -/
namespace EM
open PySem PySem.Spec PyProof.Rows L2 Evl
section
variable {P : Program} {w : World} {K : PySem.W.Frag} {mg : Str → Option Value} {base : Heap} {k : Nat} {aW : Addr}
-- slots of _law_all_rows: 0 _law_many, 1 _law_found, 2 _law_k, 3 _law_more, 4 _law_row_here, 5 _law_point
def extR (n : Int) (r : List Int) : List (List Int) := ((rng n).filter fun p => !decide (p ∈ r)).map fun p => r ++ [p]
def rowsN (n : Int) : Nat → List (List Int)
  | 0 => [[]]
  | i + 1 => (rowsN n i).flatMap (extR n)
theorem extR_len {n : Int} (h : n ≤ 5) (r : List Int) : (extR n r).length ≤ 5 := by
  unfold extR
  rw [List.length_map]
  have h1 := List.length_filter_le (fun p => !decide (p ∈ r)) (rng n)
  rw [rng_len] at h1
  omega
theorem rowsN_len {n : Int} (h : n ≤ 5) : ∀ i : Nat, (rowsN n i).length ≤ 5 ^ i
  | 0 => Nat.le_refl _
  | i + 1 => by
    have h1 := rowsN_len h i
    have h2 := flat_len (c := 5) (f := extR n) (l := rowsN n i) fun a _ => extR_len h a
    unfold rowsN
    rw [Nat.pow_succ]
    omega
theorem rowsN_mem {n : Int} : ∀ (i : Nat) (r : List Int), r ∈ rowsN n i ↔ GoodIm n r ∧ r.length = i
  | 0, r => by
    unfold rowsN
    rw [List.mem_singleton]
    constructor
    · rintro rfl
      exact ⟨GoodIm.nil, rfl⟩
    · rintro ⟨_, h⟩
      exact List.length_eq_zero_iff.mp h
  | i + 1, r => by
    unfold rowsN
    rw [List.mem_flatMap]
    constructor
    · rintro ⟨q, hq, hr⟩
      obtain ⟨g, hl⟩ := (rowsN_mem i q).mp hq
      unfold extR at hr
      obtain ⟨p, hp, rfl⟩ := List.mem_map.mp hr
      obtain ⟨h1, h2⟩ := List.mem_filter.mp hp
      exact ⟨g.snoc h1 (by simpa using h2), by rw [List.length_append, hl]; rfl⟩
    · rintro ⟨g, hl⟩
      have hne : r ≠ [] := fun e => by
        rw [e] at hl
        cases hl
      obtain ⟨q, p, rfl⟩ : ∃ q p, r = q ++ [p] := ⟨_, _, (List.dropLast_concat_getLast hne).symm⟩
      have nd := g.nd
      rw [List.nodup_append] at nd
      refine ⟨q, (rowsN_mem i q).mpr ⟨⟨nd.1, fun x hx => g.inr x (List.mem_append_left _ hx)⟩, by rw [List.length_append] at hl; simpa using hl⟩, List.mem_map.mpr ⟨p, List.mem_filter.mpr ⟨mem_rng.mpr (g.inr p (by simp)), ?_⟩, rfl⟩⟩
      have : p ∉ q := fun hp => nd.2.2 p hp p (by simp) rfl
      simpa using this
theorem rows_all {n : Int} (h0 : 0 ≤ n) (r : List Int) : r ∈ rowsN n n.toNat ↔ IsRow n r := by
  rw [rowsN_mem]
  exact ⟨fun ⟨a, b⟩ => ⟨a, by omega⟩, fun ⟨a, b⟩ => ⟨a, by omega⟩⟩
theorem rows_few {n : Int} (h : n ≤ 5) {i : Nat} (hi : i ≤ 5) : (rowsN n i).length ≤ 3125 := by
  have h1 := rowsN_len h i
  have h2 : 5 ^ i ≤ 5 ^ 5 := Nat.pow_le_pow_right (by decide) hi
  omega
abbrev spAll : Sp := spec (fun n : Int => [⟨rInt, n⟩]) (fun n => 1 ≤ n ∧ n ≤ 5) (rL (rL rInt)) (fun n => rowsN n n.toNat)
theorem ok__law_all_rows (D : Dn K mg "_law_all_rows" st__law_all_rows ["_law_many"]) (B : Blt mg) : FnOk P w K mg base CX0 (k + 1) D.f D.fd ["_law_many"] spAll := by
  refine fn_spec D.F sc__law_all_rows (fun _ => rfl) fun cdv A outer s H E hr => ?_
  have h64 := hr.units
  refine ⟨_, (pss_cons (ps_set (i := 1) sc__law_all_rows.nd rfl (Or.inl rfl) (pe_lst (pa_cons (pe_lst pa_nil) pa_nil)))
 (pss_cons (ps_for PassesOwn.never rfl (pi_range1 (by rfl) B.range (pa_cons (pv 0) pa_nil)) (pg_name (i := 2) sc__law_all_rows.nd rfl (Or.inl rfl))
(pss_cons (ps_set (i := 3) sc__law_all_rows.nd rfl (Or.inl rfl) (pe_lst pa_nil))
 (pss_cons (ps_for PassesOwn.never rfl (k_iL K (pv 1)) (pg_name (i := 4) sc__law_all_rows.nd rfl (Or.inr rfl))
(pss_cons (ps_expr (k_bm K PySem.F.plainAttrs_list PySem.F.slot_list_extend PySem.F.type_list_extend mt_extend (pv 3) (pa_cons (pe_lc (own := [("_law_point", 5)]) rfl sc__law_all_rows.nd (pi_range1 (by rfl) B.range (pa_cons (pv 0) pa_nil)) (blkOk_by (by kernel_rfl)) (fun _ _ _ _ _ => (pg_name (i := 5) sc__law_all_rows.nd rfl (by first | exact Or.inl rfl | exact Or.inr rfl))) (fun _ _ _ _ _ => (pts_one (pt_cmpR (k_notin K) (pv 5) (pv 4) (by rfl)))) (fun _ _ _ _ _ => (pe_op op_cat (pv 4) (pe_lst (pa_cons (pv 5) pa_nil))))) pa_nil)))
 pss_nil))
 (pss_cons (ps_set (i := 1) sc__law_all_rows.nd rfl (Or.inl rfl) (pv 3))
 pss_nil))))
 (pss_cons (ps_ret (pv 1))
 pss_nil))), fun n w0 Q ⟨hlo, hhi⟩ ret => ?_⟩
  refine go_asg (R := rL (rL rInt)) (a := rowsN n 0) (ee_lst (eas_cons (ee_lst eas_nil (by show 0 ≤ 100000; decide)) eas_nil) (by show 1 ≤ 100000; decide)) ?_
  refine go_for (as := rng n) (R := rInt) (fun i => ⟨[some ⟨rInt, n⟩, some ⟨rL (rL rInt), rowsN n i⟩, none, none, none, none], none⟩) (fun _ => True) (fun i y => ⟨[some ⟨rInt, n⟩, some ⟨rL (rL rInt), rowsN n i⟩, some ⟨rInt, y⟩, none, none, none], none⟩)
    (ei_range (ee_var (a := n) rfl) (by omega) (by omega)) trivial (fun _ _ _ => eg_name) (fun _ _ => Keep.none rfl) (fun B2 i y hy _ => ?_) (fun _ => ?_)
  · have hi : i < 5 := by
      have := (List.getElem?_eq_some_iff.mp hy).1
      rw [rng_len] at this
      omega
    refine go_ownL (rL rInt) (by show 3 < 6; decide) ?_
    refine go_for (as := rowsN n i) (R := rL rInt) (fun j => ⟨[some ⟨rInt, n⟩, some ⟨rL (rL rInt), rowsN n i⟩, some ⟨rInt, y⟩, none, none, none], some (3, ownL (rL rInt) (((rowsN n i).take j).flatMap (extR n)))⟩) (fun _ => True)
      (fun j r => ⟨[some ⟨rInt, n⟩, some ⟨rL (rL rInt), rowsN n i⟩, some ⟨rInt, y⟩, none, some ⟨rL rInt, r⟩, none], some (3, ownL (rL rInt) (((rowsN n i).take j).flatMap (extR n)))⟩) (ei_list (ee_var rfl)) trivial (fun _ _ _ => eg_name) (fun _ _ => keepO rfl rfl rfl) (fun B3 j r hj _ => ?_) (fun _ => ?_)
    · have hrm := (rowsN_mem i r).mp (List.mem_of_getElem? hj)
      have hrl := hrm.2
      refine go_extend (R := rL rInt) (bs := extR n r) rfl (EE.is (ee_lc (S := rL rInt) (fun p => !decide (p ∈ r)) (fun p => r ++ [p]) (ei_range (ee_var (a := n) rfl) (by omega) (by omega)) (clear1o rfl rfl rfl) mem1 (fun a _ => eg_name) (fun p _ => et_B (ee_niL (ee_var (a := p) rfl) (ee_var (a := r) rfl)))
        (fun p _ _ => ee_cat (ee_var (a := r) rfl) (ee_lst (as := [p]) (eas_cons (ee_var rfl) eas_nil) (by show 1 ≤ 100000; decide)) (by show r.length + 1 ≤ 90000; omega)) (by rw [rng_len]; omega)) rfl) ?_ ?_
      · have h1 := extR_len hhi r
        have h2 := flat_len (c := 5) (f := extR n) (l := (rowsN n i).take j) fun a _ => extR_len hhi a
        have h3 := rows_few hhi (show i ≤ 5 by omega)
        rw [List.length_take] at h2
        omega
      · refine go_eqO (bs := ((rowsN n i).take (j + 1)).flatMap (extR n)) (by rw [flat_take_at hj]) ?_
        exact go_turn trivial (.keep (.keep (.keep (.keep (.drop (.keep .nil)))))) rfl
    · refine go_fixL rfl (by show 3 < 6; decide) ?_
      refine go_asg (R := rL (rL rInt)) (a := rowsN n (i + 1)) (EE.is (ee_var rfl) (by rw [List.take_length]; rfl)) ?_
      exact go_turn trivial (.keep (.keep (.drop (.drop (.keep (.keep .nil)))))) rfl
  · exact go_ret (EE.is (ee_var rfl) (by rw [rng_len])) ret
-- slots of _law_small: 0 _law_cell_here, 1 _law_xs, 2 _law_many, 3 _law_k
abbrev spSmall : Sp := spec (fun _ : Unit => [⟨rIntX, ()⟩]) (fun _ => True) (rEx GoodL rLay) (fun _ => ())
theorem at_of {xs : List Int} {i : Nat} (h : i < xs.length) : xs[i]? = some (xs.getD i 0) := by
  rw [List.getD_eq_getElem?_getD, List.getElem?_eq_getElem h]
  rfl
theorem ok__law_small (D : Dn K mg "_law_small" st__law_small ["_law_cell_here"]) (B : Blt mg) (C__law_numbers : Cal P w K mg base k "_law_numbers" ["_law_cell_here", "_law_many"] spNum) (C__law_mask : Cal P w K mg base k "_law_mask" ["_law_x", "_law_many"] spMask) : FnOk P w K mg base CX0 (k + 1) D.f D.fd ["_law_cell_here"] spSmall := by
  refine fn_spec D.F sc__law_small (fun _ => rfl) fun cdv A outer s H E hr => ?_
  have h64 := hr.units
  refine ⟨_, (pss_cons (ps_set (i := 1) sc__law_small.nd rfl (Or.inr rfl) (k_call C__law_numbers hr (by rfl) (pa_cons (pv 0) (pa_cons pe_int pa_nil))))
 (pss_cons (ps_set (i := 2) sc__law_small.nd rfl (Or.inr rfl) (pe_op op_add pe_int (pe_op op_mod (pe_ix (k_ixL K) (pv 1) pe_int (fun _ _ => rfl)) pe_int)))
 (pss_cons (ps_ret (pe_tup (pa_cons (pv 2) (pa_cons (pe_callTy (k_tupof K) (by rfl) B.tuple (by decide +kernel) (pa_cons (pe_lc (own := [("_law_k", 3)]) rfl sc__law_small.nd (pi_range1 (by rfl) B.range (pa_cons (pe_op op_mod (pe_ix (k_ixL K) (pv 1) pe_int (fun _ _ => rfl)) pe_int) pa_nil)) (blkOk_by (by kernel_rfl)) (fun _ _ _ _ _ => (pg_name (i := 3) sc__law_small.nd rfl (by first | exact Or.inl rfl | exact Or.inr rfl))) (fun _ _ _ _ _ => pts_nil) (fun _ _ _ _ _ => (k_call C__law_mask hr (by rfl) (pa_cons (pe_op op_mod (pe_ix (k_ixL K) (pv 1) (pe_op op_add pe_int (pv 3)) (fun _ _ => rfl)) (pe_op op_shl pe_int (pv 2))) (pa_cons (pv 2) pa_nil))))) pa_nil)) pa_nil))))
 pss_nil))), fun a w0 Q _ ret => ?_⟩
  refine go_asgB (F := NumOk) (R := rL rInt) (b := 8) (ee_call (8 : Nat) (ea_cons (ee_var rfl) (ea_cons ee_int ea_nil)) (by show 8 ≤ 1000; decide)) fun xs hx => ?_
  have hl : xs.length = 8 := hx.1
  refine go_asg (R := rInt) (a := 1 + xs.getD 0 0 % 5) (ee_I0 (T := rInt) ee_int (ee_I (T := rInt) (ee_ixL (as := xs) (ee_var rfl) ee_int (by decide) (at_of (i := 0) (by omega))) ee_int (by decide) fun _ => rfl) fun _ => rfl) ?_
  have hn : 1 ≤ 1 + xs.getD 0 0 % 5 ∧ 1 + xs.getD 0 0 % 5 ≤ 5 := by omega
  generalize 1 + xs.getD 0 0 % 5 = n at hn
  have hm : 0 ≤ xs.getD 1 0 % 7 ∧ xs.getD 1 0 % 7 ≤ 6 := by omega
  refine go_ret (EE.ex (ee_tup2 (a := n) (ee_var rfl) (ee_tupL (ee_lcA (S := rT rInt) (fun y : Int => maskM (xs.getD (2 + y).toNat 0 % (1 * 2 ^ n.toNat)) n) (ei_range (n := xs.getD 1 0 % 7) (ee_I (T := rInt) (ee_ixL (as := xs) (ee_var rfl) ee_int (by decide) (at_of (i := 1) (by omega))) ee_int (by decide) fun _ => rfl) (by omega) (by omega)) (clear1 rfl rfl) mem1 (fun a _ => eg_name)
    (fun y hy => ee_call (xs.getD (2 + y).toNat 0 % (1 * 2 ^ n.toNat), n) (ea_cons (ee_I (T := rInt) (ee_ixL (as := xs) (ee_var rfl) (ee_I0 (T := rInt) ee_int (ee_var (a := y) rfl) fun _ => rfl) (by have := mem_rng.mp hy; omega) (at_of (by have := mem_rng.mp hy; omega))) (ee_I (T := rInt) ee_int (ee_var (a := n) rfl) ⟨by omega, by omega, by decide⟩ fun _ => rfl) ?_ fun _ => rfl) (ea_cons (ee_var rfl) ea_nil)) hn) (by rw [rng_len]; omega)))) ?_) ret
  · have : (0 : Int) < 2 ^ n.toNat := Int.pow_pos (by decide)
    show (0 : Int) < 1 * 2 ^ n.toNat
    omega
  · refine ⟨hn.1, hn.2, by show (List.map _ (rng _)).length ≤ 6; rw [List.length_map, rng_len]; omega, fun b hb => ?_⟩
    obtain ⟨y, _, rfl⟩ := List.mem_map.mp hb
    exact mask_good _ _
end
end EM

set_option Elab.async false
set_option linter.all false
set_option maxRecDepth 100000
set_option maxHeartbeats 2000000
/-! EmD7: the two layouts, the law. -/
namespace EM
open PySem PySem.Spec PyProof.Rows L2 Evl
section
variable {P : Program} {w : World} {K : PySem.W.Frag} {mg : Str → Option Value} {base : Heap} {k : Nat} {aW : Addr}
-- slots of _law_two: 0 _law_script, 1 _law_layout, 2 _law_xs, 3 _law_other, 4 _law_blocks, 5 _law_k, 6 _law_row_here, 7 _law_point
abbrev spTwo (K : PySem.W.Frag) : Sp := spec (fun ns : List Int => [⟨rScr K, ns⟩]) (fun _ => True) (rEx (fun p : Lay × Lay => GoodL p.1 ∧ GoodL p.2) (rP rLay rLay)) (fun _ => ())
theorem cut_27 {xs : List Int} (h : xs.length = 10) : (cutG xs (some 2) (some 7)).length = 5 := by
  unfold cutG
  rw [show (2 : Int) = ((2 : Nat) : Int) from rfl, show (7 : Int) = ((7 : Nat) : Int) from rfl, HT.sIx_nat, HT.sIx_nat, List.length_take, List.length_drop]
  omega
theorem set_good {M : Lay} (g : GoodL M) {r : List Int} (hr : IsRow M.1 r) {i : Nat} {b : Blk} (hb : b ∈ M.2) : GoodL (M.1, M.2.set i (ren r b)) :=
  ⟨g.lo, g.hi, by show (M.2.set i _).length ≤ 6; rw [List.length_set]; exact g.few, fun c hc => by
    rcases List.mem_or_eq_of_mem_set hc with hc | rfl
    · exact g.blk c hc
    · exact ren_good hr (g.blk b hb)⟩
abbrev twoΓ (K : PySem.W.Frag) (ns : List Int) (M : Lay) (xs : List Int) (N : Lay) : Ctx := ⟨[some ⟨rScr K, ns⟩, some ⟨rLay, M⟩, some ⟨rL rInt, xs⟩, some ⟨rLay, N⟩, none, none, none, none], none⟩
theorem ok__law_two (D : Dn K mg "_law_two" st__law_two ["_law_script"]) (B : Blt mg) (C__law_cell : Cal P w K mg base k "_law_cell" ["_law_script", "_law_k"] (spCell K)) (C__law_small : Cal P w K mg base k "_law_small" ["_law_cell_here"] spSmall) (C__law_numbers : Cal P w K mg base k "_law_numbers" ["_law_cell_here", "_law_many"] spNum)
    (C__law_row : Cal P w K mg base k "_law_row" ["_law_xs", "_law_many"] spLRow) (C__law_renamed : Cal P w K mg base k "_law_renamed" ["_law_layout", "_law_row_here", "_law_turn"] spRen) : FnOk P w K mg base CX0 (k + 1) D.f D.fd ["_law_script"] (spTwo K) := by
  refine fn_spec D.F sc__law_two (fun _ => rfl) fun cdv A outer s H E hr => ?_
  have h64 := hr.units
  refine ⟨_, (pss_cons (ps_set (i := 1) sc__law_two.nd rfl (Or.inl rfl) (k_call C__law_small hr (by rfl) (pa_cons (k_call C__law_cell hr (by rfl) (pa_cons (pv 0) (pa_cons pe_int pa_nil))) pa_nil)))
 (pss_cons (ps_set (i := 2) sc__law_two.nd rfl (Or.inl rfl) (k_call C__law_numbers hr (by rfl) (pa_cons (k_call C__law_cell hr (by rfl) (pa_cons (pv 0) (pa_cons pe_int pa_nil))) (pa_cons pe_int pa_nil))))
 (pss_cons (ps_set (i := 3) sc__law_two.nd rfl (Or.inl rfl) (pv 1))
 (pss_cons (ps_if (pt_cmpR op_eq (pe_op op_mod (pe_ix (k_ixL K) (pv 2) pe_int (fun _ _ => rfl)) pe_int) pe_int (nomark _))
(pss_cons (ps_set (i := 3) sc__law_two.nd rfl (Or.inl rfl) (k_call C__law_small hr (by rfl) (pa_cons (k_call C__law_cell hr (by rfl) (pa_cons (pv 0) (pa_cons pe_int pa_nil))) pa_nil)))
 pss_nil)
pss_nil)
 (pss_cons (ps_if (PW.pt (pw_and (pt_cmpR op_gt (pe_op op_mod (pe_ix (k_ixL K) (pv 2) pe_int (fun _ _ => rfl)) pe_int) pe_int (nomark _)) (pw_and1 (pt_cmpR (k_neD K h64) (pe_ix (k_ixT K) (pv 1) pe_int (fun _ _ => rfl)) (pe_tup pa_nil) (nomark _)))))
(pss_cons (ps_set (i := 4) sc__law_two.nd rfl (Or.inl rfl) (pe_callTy (k_listof K) (by rfl) B.list (by decide +kernel) (pa_cons (pe_ix (k_ixT K) (pv 1) pe_int (fun _ _ => rfl)) pa_nil)))
 (pss_cons (ps_set (i := 5) sc__law_two.nd rfl (Or.inl rfl) (pe_op op_mod (pe_ix (k_ixL K) (pv 2) pe_int (fun _ _ => rfl)) (pe_callB (k_len K) (by rfl) B.len (by decide +kernel) (pa_cons (pv 4) pa_nil))))
 (pss_cons (ps_set (i := 6) sc__law_two.nd rfl (Or.inr rfl) (k_call C__law_row hr (by rfl) (pa_cons (pe_slice (k_sl K) (pv 2) (po_some pe_int) (po_some pe_int)) (pa_cons (pe_ix (k_ixT K) (pv 1) pe_int (fun _ _ => rfl)) pa_nil))))
 (pss_cons (ps_asg (pe_callTy (k_tupof K) (by rfl) B.tuple (by decide +kernel) (pa_cons (pe_callB (k_sortI K) (by rfl) B.sorted (by decide +kernel) (pa_cons (pe_lc (own := [("_law_point", 7)]) rfl sc__law_two.nd (k_iT K (pe_ix (k_ixL K) (pv 4) (pv 5) (fun _ _ => rfl))) (blkOk_by (by kernel_rfl)) (fun _ _ _ _ _ => (pg_name (i := 7) sc__law_two.nd rfl (by first | exact Or.inl rfl | exact Or.inr rfl))) (fun _ _ _ _ _ => pts_nil) (fun _ _ _ _ _ => (pe_ix (k_ixL K) (pv 6) (pv 7) (fun _ _ => rfl)))) pa_nil)) pa_nil)) (pg_sub (pv 4) (pv 5) set_list (fun _ => rfl)))
 (pss_cons (ps_set (i := 3) sc__law_two.nd rfl (Or.inl rfl) (pe_tup (pa_cons (pe_ix (k_ixT K) (pv 1) pe_int (fun _ _ => rfl)) (pa_cons (pe_callTy (k_tupof K) (by rfl) B.tuple (by decide +kernel) (pa_cons (pv 4) pa_nil)) pa_nil))))
 pss_nil)))))
pss_nil)
 (pss_cons (ps_ret (pe_tup (pa_cons (pv 1) (pa_cons (k_call C__law_renamed hr (by rfl) (pa_cons (pv 3) (pa_cons (k_call C__law_row hr (by rfl) (pa_cons (k_call C__law_numbers hr (by rfl) (pa_cons (k_call C__law_cell hr (by rfl) (pa_cons (pv 0) (pa_cons pe_int pa_nil))) (pa_cons pe_int pa_nil))) (pa_cons (pe_ix (k_ixT K) (pv 3) pe_int (fun _ _ => rfl)) pa_nil))) (pa_cons (pe_ix (k_ixL K) (pv 2) pe_int (fun _ _ => rfl)) pa_nil)))) pa_nil))))
 pss_nil)))))), fun ns w0 Q _ ret => ?_⟩
  have two : (0 : Int) ≤ 2 ∧ (2 : Int) ≤ 4 := ⟨by decide, by decide⟩
  refine go_asgX (P := GoodL) (R := rLay) (ee_call () (ea_cons (ee_call (ns, 1) (ea_cons (ee_var rfl) (ea_cons ee_int ea_nil)) ⟨by show (0 : Int) ≤ 1; decide, by show (1 : Int) ≤ 4; decide⟩) ea_nil) trivial) fun M gM => ?_
  have hlo : 1 ≤ M.1 := gM.lo
  have hhi : M.1 ≤ 5 := gM.hi
  refine go_asgB (F := NumOk) (R := rL rInt) (b := 10) (ee_call (10 : Nat) (ea_cons (ee_call (ns, 0) (ea_cons (ee_var rfl) (ea_cons ee_int ea_nil)) ⟨by show (0 : Int) ≤ 0; decide, by show (0 : Int) ≤ 4; decide⟩) (ea_cons ee_int ea_nil)) (by show 10 ≤ 1000; decide)) fun xs hx => ?_
  have hl : xs.length = 10 := hx.1
  refine go_asg (R := rLay) (a := M) (ee_var rfl) ?_
  refine go_join (fun N : { N : Lay // GoodL N } => twoΓ K ns M xs N.1) (fun ⟨N1, gN1⟩ => ?_) (et_B (ee_eqI (ee_I (T := rInt) (ee_ixL (as := xs) (ee_var rfl) ee_int (by decide) (at_of (i := 0) (by omega))) ee_int (by decide) fun _ => rfl) ee_int))
    (fun _ k => go_asgX (P := GoodL) (R := rLay) (ee_call () (ea_cons (ee_call (ns, 2) (ea_cons (ee_var rfl) (ea_cons ee_int ea_nil)) ⟨by show (0 : Int) ≤ 2; decide, by show (2 : Int) ≤ 4; decide⟩) ea_nil) trivial) fun N gN => go_next (k ⟨N, gN⟩)) (fun _ k => k ⟨M, gM⟩)
  refine go_join (fun N : { N : Lay // GoodL N } => twoΓ K ns M xs N.1) (fun ⟨N, gN⟩ => ?_) (et_and (et_B (ee_I0 (T := rBool) (c := decide (1 < xs.getD 0 0 % 4)) (ee_I (T := rInt) (ee_ixL (as := xs) (ee_var rfl) ee_int (by decide) (at_of (i := 0) (by omega))) ee_int (by decide) fun _ => rfl) ee_int fun _ => rfl)) fun _ => et_B (ee_neTT (bs := []) (ee_snd (ee_var (a := M) rfl)) (ee_tup eas_nil (by show 0 ≤ 100000; decide)))) (fun h k => ?_) (fun _ k => k ⟨N1, gN1⟩)
  · refine go_ret (EE.imp (S := rEx (fun p : Lay × Lay => GoodL p.1 ∧ GoodL p.2) (rP rLay rLay)) (b := ()) (ee_tup2 (a := M) (ee_var rfl) (ee_call (N, xs.getD 7 0) (ea_cons (ee_var rfl) (ea_cons (ee_call N.1 (ea_cons (EE.imp (S := rEx (fun xs : List Int => xs.length = 5) (rL rInt)) (b := ()) (ee_call (5 : Nat) (ea_cons (ee_call (ns, 3) (ea_cons (ee_var rfl) (ea_cons ee_int ea_nil)) ⟨by show (0 : Int) ≤ 3; decide, by show (3 : Int) ≤ 4; decide⟩) (ea_cons ee_int ea_nil)) (by show 5 ≤ 1000; decide)) fun v H ⟨zs, h, r⟩ => ⟨zs, h.1, r⟩)
      (ea_cons (ee_fst (ee_var (a := N) rfl)) ea_nil)) ⟨gN.lo, gN.hi⟩) (ea_cons (ee_ixL (as := xs) (ee_var rfl) ee_int (by decide) (at_of (i := 7) (by omega))) ea_nil))) gN)) ?_) ret
    rintro v H ⟨p, x, y, rfl, hp, hx, N2, gN2, hy⟩
    exact ⟨(M, N2), ⟨gM, gN2⟩, p, x, y, rfl, hp, hx, hy⟩
  · have hne : M.2 ≠ [] := by
      intro e
      simp [e] at h
    have hpos : 0 < M.2.length := List.length_pos_iff.mpr hne
    refine go_copyT (R := rT rInt) (as := M.2) (ee_snd (ee_var (a := M) rfl)) (by show 4 < 8; decide) ?_
    refine go_asg (R := rInt) (a := xs.getD 1 0 % (M.2.length : Int)) (ee_I (T := rInt) (ee_ixL (as := xs) (ee_var rfl) ee_int (by decide) (at_of (i := 1) (by omega))) (ee_lenO (as := M.2) (R := rT rInt) rfl) (show (0 : Int) < (M.2.length : Int) by omega) fun _ => rfl) ?_
    have hk0 : 0 ≤ xs.getD 1 0 % (M.2.length : Int) := Int.emod_nonneg _ (by omega)
    have hk1 : xs.getD 1 0 % (M.2.length : Int) < (M.2.length : Int) := Int.emod_lt_of_pos _ (by omega)
    generalize xs.getD 1 0 % (M.2.length : Int) = kk at hk0 hk1
    have hkn : kk.toNat < M.2.length := by omega
    refine go_asgB (F := IsRow) (R := rL rInt) (b := M.1) (ee_call M.1 (ea_cons (EE.ex (ee_slice (ee_var (a := xs) rfl) (eo_some ee_int) (eo_some ee_int)) (cut_27 hl)) (ea_cons (ee_fst (ee_var (a := M) rfl)) ea_nil)) ⟨hlo, hhi⟩) fun r hrow => ?_
    have hbm : M.2[kk.toNat] ∈ M.2 := List.getElem_mem hkn
    refine go_setL (R := rT rInt) (as := M.2) (a := ren r M.2[kk.toNat]) (k := kk) rfl (ee_ren hrow (gM.blk _ hbm).2 (by have := good_blk_len gM hbm; omega) rfl (clear1o rfl rfl rfl) rfl (ee_ixO (as := M.2) rfl (ee_var (a := kk) rfl) hk0 (List.getElem?_eq_getElem hkn)) (by show 7 < 8; decide)) (ee_var (a := kk) rfl) hk0 hk1 ?_
    refine go_fixL rfl (by show 4 < 8; decide) ?_
    refine go_asg (R := rLay) (a := (M.1, M.2.set kk.toNat (ren r M.2[kk.toNat]))) (ee_tup2 (ee_fst (ee_var (a := M) rfl)) (ee_tupL (ee_var rfl))) ?_
    refine go_next (go_less (Γ' := twoΓ K ns M xs (M.1, M.2.set kk.toNat (ren r M.2[kk.toNat]))) (.keep (.keep (.keep (.keep (.drop (.drop (.drop (.keep .nil)))))))) rfl (k ⟨_, set_good gM hrow hbm⟩))
-- slots of law: 0 _law_script, 1 _law_layout, 2 _law_other, 3 _law_due, 4 _law_told, 5 _law_papers, 6 _law_third, 7 _law_row_here, 8 _law_word, 9 _law_y, 10 _law_paper
abbrev spLaw0 (K : PySem.W.Frag) : Sp := spec (fun ns : List Int => [⟨rScr K, ns⟩]) (fun _ => True) rBool (fun _ => true)
theorem law_dueB {M N : Lay} (gM : GoodL M) (gN : GoodL N) : dueB M N (rowsN M.1 M.1.toNat) = true ↔ Due M N := due_iff gM gN fun r => rows_all (by have := gM.lo; omega) r
abbrev lawΓ (K : PySem.W.Frag) (ns : List Int) (M N : Lay) (b : Bool) (t : Told) (o : Option Imm) (x : Option Imm) : List (Option Imm) := [some ⟨rScr K, ns⟩, some ⟨rLay, M⟩, some ⟨rLay, N⟩, some ⟨rBool, b⟩, some ⟨rTold, t⟩, o, x, none, none, none, none]
theorem ok_law (D : Dn K mg "law" st_law ["_law_script"]) (B : Blt mg) (C__law_two : Cal P w K mg base k "_law_two" ["_law_script"] (spTwo K)) (C__law_all_rows : Cal P w K mg base k "_law_all_rows" ["_law_many"] spAll) (C__law_leads : Cal P w K mg base k "_law_leads" ["_law_layout", "_law_row_here", "_law_other"] spLeads)
    (C_alike : Cal P w K mg base k "alike" ["layout", "other"] spAlike) (C_apart_taken : Cal P w K mg base k "apart_taken" ["layout", "other", "paper"] spApart) (C__law_cell : Cal P w K mg base k "_law_cell" ["_law_script", "_law_k"] (spCell K)) (C__law_small : Cal P w K mg base k "_law_small" ["_law_cell_here"] spSmall) :
    FnOk P w K mg base CX0 (k + 1) D.f D.fd ["_law_script"] (spLaw0 K) := by
  refine fn_spec D.F sc_law (fun _ => rfl) fun cdv A outer s H E hr => ?_
  have h64 := hr.units
  refine ⟨_, (pss_cons (ps_asg (k_call C__law_two hr (by rfl) (pa_cons (pv 0) pa_nil)) (k_gT K (n := 2) (pgs_cons (pg_name (i := 1) sc_law.nd rfl (Or.inr rfl)) (pgs_cons (pg_name (i := 2) sc_law.nd rfl (Or.inr rfl)) pgs_nil))))
 (pss_cons (ps_set (i := 3) sc_law.nd rfl (Or.inl rfl) (pe_callB (k_any K) (by rfl) B.any (by decide +kernel) (pa_cons (pe_lc (own := [("_law_row_here", 7)]) rfl sc_law.nd (k_iL K (k_call C__law_all_rows hr (by rfl) (pa_cons (pe_ix (k_ixT K) (pv 1) pe_int (fun _ _ => rfl)) pa_nil))) (blkOk_by (by kernel_rfl)) (fun _ _ _ _ _ => (pg_name (i := 7) sc_law.nd rfl (by first | exact Or.inl rfl | exact Or.inr rfl))) (fun _ _ _ _ _ => pts_nil) (fun _ _ _ _ _ => (k_call C__law_leads hr (by rfl) (pa_cons (pv 1) (pa_cons (pv 7) (pa_cons (pv 2) pa_nil)))))) pa_nil)))
 (pss_cons (ps_set (i := 4) sc_law.nd rfl (Or.inl rfl) (k_call C_alike hr (by rfl) (pa_cons (pv 1) (pa_cons (pv 2) pa_nil))))
 (pss_cons (ps_if (pt_cmpR op_ne (pe_ix (k_ixT K) (pv 4) pe_int (fun _ _ => rfl)) (pe_ix (k_ixL K) (pe_lst (pa_cons pe_str (pa_cons pe_str pa_nil))) (pe_callTy k_int1 (by rfl) B.int (by decide +kernel) (pa_cons (pv 3) pa_nil)) (fun _ _ => rfl)) (nomark _))
(pss_cons (ps_ret pe_bl)
 pss_nil)
pss_nil)
 (pss_cons (ps_if (pt_not (pt_val (pv 3)))
(pss_cons (ps_ret (k_call C_apart_taken hr (by rfl) (pa_cons (pv 1) (pa_cons (pv 2) (pa_cons (pe_ix (k_ixT K) (pv 4) pe_int (fun _ _ => rfl)) pa_nil)))))
 pss_nil)
pss_nil)
 (pss_cons (ps_setLc (i := 5) (own := [("_law_word", 8)]) rfl sc_law.nd rfl rfl (sw_true rfl rfl rfl (by decide +kernel)) (k_iL K (pe_lst (pa_cons pe_str (pa_cons pe_str (pa_cons pe_str (pa_cons pe_str (pa_cons pe_str pa_nil))))))) (blkOk_by (by kernel_rfl)) (fun _ _ _ _ _ => (pg_name (i := 8) sc_law.nd rfl (by first | exact Or.inl rfl | exact Or.inr rfl))) (fun _ _ _ _ _ => pts_nil) (fun _ _ _ _ _ => (pe_tup (pa_cons pe_str (pa_cons (pv 8) pa_nil)))))
 (pss_cons (ps_set (i := 5) sc_law.nd rfl (Or.inl rfl) (pe_op op_cat (pv 5) (pe_lst (pa_cons (pe_tup (pa_cons pe_str (pa_cons (pe_tup (pa_cons pe_str (pa_cons (pe_tup pa_nil) pa_nil))) pa_nil))) (pa_cons (pe_tup (pa_cons pe_str (pa_cons (pe_tup (pa_cons pe_str (pa_cons pe_int (pa_cons (pe_tup pa_nil) pa_nil)))) pa_nil))) pa_nil)))))
 (pss_cons (ps_expr (k_bm K PySem.F.plainAttrs_list PySem.F.slot_list_append PySem.F.type_list_append mt_append (pv 5) (pa_cons (pe_tup (pa_cons pe_str (pa_cons (pe_tup (pa_cons pe_str (pa_cons pe_int (pa_cons (pe_callTy (k_tupof K) (by rfl) B.tuple (by decide +kernel) (pa_cons (pe_lc (own := [("_law_y", 9)]) rfl sc_law.nd (pi_range1 (by rfl) B.range (pa_cons (pe_ix (k_ixT K) (pv 1) pe_int (fun _ _ => rfl)) pa_nil)) (blkOk_by (by kernel_rfl)) (fun _ _ _ _ _ => (pg_name (i := 9) sc_law.nd rfl (by first | exact Or.inl rfl | exact Or.inr rfl))) (fun _ _ _ _ _ => pts_nil) (fun _ _ _ _ _ => (pe_tup (pa_cons (pv 9) (pa_cons (pe_tup (pa_cons pe_str (pa_cons (pe_tup (pa_cons pe_int pa_nil)) pa_nil))) pa_nil))))) pa_nil)) pa_nil)))) pa_nil))) pa_nil)))
 (pss_cons (ps_expr (k_bm K PySem.F.plainAttrs_list PySem.F.slot_list_append PySem.F.type_list_append mt_append (pv 5) (pa_cons (pe_tup (pa_cons pe_str (pa_cons (pe_tup (pa_cons pe_str (pa_cons pe_int (pa_cons (pe_callTy (k_tupof K) (by rfl) B.tuple (by decide +kernel) (pa_cons (pe_lc (own := [("_law_y", 9)]) rfl sc_law.nd (pi_range1 (by rfl) B.range (pa_cons (pe_ix (k_ixT K) (pv 1) pe_int (fun _ _ => rfl)) pa_nil)) (blkOk_by (by kernel_rfl)) (fun _ _ _ _ _ => (pg_name (i := 9) sc_law.nd rfl (by first | exact Or.inl rfl | exact Or.inr rfl))) (fun _ _ _ _ _ => pts_nil) (fun _ _ _ _ _ => (pe_tup (pa_cons (pv 9) (pa_cons (pe_tup (pa_cons pe_str (pa_cons (pe_tup pa_nil) pa_nil))) pa_nil))))) pa_nil)) pa_nil)))) pa_nil))) pa_nil)))
 (pss_cons (ps_set (i := 6) sc_law.nd rfl (Or.inl rfl) (k_call C_alike hr (by rfl) (pa_cons (pv 1) (pa_cons (k_call C__law_small hr (by rfl) (pa_cons (k_call C__law_cell hr (by rfl) (pa_cons (pv 0) (pa_cons pe_int pa_nil))) pa_nil)) pa_nil))))
 (pss_cons (ps_if (pt_cmpR op_eq (pe_ix (k_ixT K) (pv 6) pe_int (fun _ _ => rfl)) pe_str (nomark _))
(pss_cons (ps_expr (k_bm K PySem.F.plainAttrs_list PySem.F.slot_list_append PySem.F.type_list_append mt_append (pv 5) (pa_cons (pe_ix (k_ixT K) (pv 6) pe_int (fun _ _ => rfl)) pa_nil)))
 pss_nil)
pss_nil)
 (pss_cons (ps_ret (pe_and (k_call C__law_leads hr (by rfl) (pa_cons (pv 1) (pa_cons (pe_ix (k_ixT K) (pv 4) pe_int (fun _ _ => rfl)) (pa_cons (pv 2) pa_nil)))) (pe_one (pe_not (pe_callB (k_any K) (by rfl) B.any (by decide +kernel) (pa_cons (pe_lc (own := [("_law_paper", 10)]) rfl sc_law.nd (k_iL K (pv 5)) (blkOk_by (by kernel_rfl)) (fun _ _ _ _ _ => (pg_name (i := 10) sc_law.nd rfl (by first | exact Or.inl rfl | exact Or.inr rfl))) (fun _ _ _ _ _ => pts_nil) (fun _ _ _ _ _ => (k_call C_apart_taken hr (by rfl) (pa_cons (pv 1) (pa_cons (pv 2) (pa_cons (pv 10) pa_nil)))))) pa_nil))))))
 pss_nil)))))))))))), fun ns w0 Q _ ret => ?_⟩
  refine go_tgtX (P := fun p : Lay × Lay => GoodL p.1 ∧ GoodL p.2) (R := rP rLay rLay) (ee_call ns (ea_cons (ee_var rfl) ea_nil) trivial) (fun a _ => eg_pair) (fun a => Keep.none rfl) fun p gp => ?_
  obtain ⟨M, N⟩ := p
  have gM : GoodL M := gp.1
  have gN : GoodL N := gp.2
  have hlo : 1 ≤ M.1 := gM.lo
  have hhi : M.1 ≤ 5 := gM.hi
  refine go_asg (R := rBool) (a := dueB M N (rowsN M.1 M.1.toNat)) (EE.is (ee_any (ee_lcA (S := rBool) (fun r => leadsB M r N) (ei_list (ee_call M.1 (ea_cons (ee_fst (ee_var (a := M) rfl)) ea_nil) ⟨hlo, hhi⟩)) (clear1 rfl rfl) mem1 (fun a _ => eg_name)
    (fun r hr => ee_call (M, r, N) (ea_cons (ee_var rfl) (ea_cons (ee_var rfl) (ea_cons (ee_var rfl) ea_nil))) ⟨gM, gN, (rows_all (n := M.1) (by omega) r).mp hr⟩) (by have := rows_few hhi (show M.1.toNat ≤ 5 by omega); show (rowsN M.1 M.1.toNat).length ≤ 90000; omega))) (by unfold dueB; rw [List.any_map]; rfl)) ?_
  have hdue := law_dueB gM gN
  generalize dueB M N (rowsN M.1 M.1.toNat) = due at hdue
  refine go_asgB (F := toldF) (R := rTold) (b := (M, N)) (ee_call (M, N) (ea_cons (ee_var rfl) (ea_cons (ee_var rfl) ea_nil)) ⟨gM, gN⟩) fun t ht => ?_
  have ht : ToldOk M N t := ht
  cases t with
  | unl p =>
    have hd : due = false := by
      cases due with
      | false => rfl
      | true =>
        obtain ⟨r, e⟩ := (told_due gM gN ht).mpr (hdue.mp rfl)
        cases e
    subst hd
    refine go_when (b := false) (ET.is (et_B (ee_neS (j := ("unlike" : Str)) (ee_fst (ee_unl.mp (ee_var (a := Told.unl p) rfl))) (ee_ixL (as := [("unlike" : Str), ("alike" : Str)]) (ee_lst (eas_cons ee_str (eas_cons ee_str eas_nil)) (by show 2 ≤ 100000; decide)) (ee_intB (ee_var (a := false) rfl)) (by decide) rfl))) (by simp)) (fun h => nomatch h) (fun _ => ?_)
    refine go_when (b := true) (ET.is (et_not (et_test (ee_var (a := false) rfl))) rfl) (fun _ => ?_) (fun h => nomatch h)
    exact go_ret (EE.is (ee_call (M, N, p) (ea_cons (ee_var rfl) (ea_cons (ee_var rfl) (ea_cons (ee_snd (a := (("unlike" : Str), p)) (ee_unl.mp (ee_var (a := Told.unl p) rfl))) ea_nil))) ⟨gM, gN⟩) (paper_yes gM gN ht)) ret
  | ali r =>
    have hD : Due M N := (told_due gM gN ht).mp ⟨r, rfl⟩
    have hd : due = true := hdue.mpr hD
    subst hd
    refine go_when (b := false) (ET.is (et_B (ee_neS (j := ("alike" : Str)) (ee_fst (ee_ali.mp (ee_var (a := Told.ali r) rfl))) (ee_ixL (as := [("unlike" : Str), ("alike" : Str)]) (ee_lst (eas_cons ee_str (eas_cons ee_str eas_nil)) (by show 2 ≤ 100000; decide)) (ee_intB (ee_var (a := true) rfl)) (by decide) rfl))) (by simp)) (fun h => nomatch h) (fun _ => ?_)
    refine go_when (b := false) (ET.is (et_not (et_test (ee_var (a := true) rfl))) rfl) (fun h => nomatch h) (fun _ => ?_)
    refine go_asg (R := rL rPap) (a := WORDS.map Pap.cnt) (ee_lcA (S := rPap) Pap.cnt (ei_list (as := WORDS) (R := rStr) (ee_lst (eas_cons ee_str (eas_cons ee_str (eas_cons ee_str (eas_cons ee_str (eas_cons ee_str eas_nil))))) (by decide))) (clear1 rfl rfl) mem1 (fun a _ => eg_name) (fun a _ => ee_cnt.mpr (ee_tup2 (a := ("count" : Str)) ee_str (ee_var rfl))) (by decide)) ?_
    refine go_catO (R := rPap) (as := WORDS.map Pap.cnt) (bs := [.tre (.tr []), .tre (.nx 0 [])]) (ee_var rfl) (ee_lst (eas_cons (ee_tre.mpr (ee_tup2 (a := ("tree" : Str)) ee_str (ee_trIn (ee_tup2 (a := ("trace" : Str)) ee_str (ee_sIn (ee_tup eas_nil (by show 0 ≤ 100000; decide)) (by show 0 ≤ 1000; decide))))))
      (eas_cons (ee_tre.mpr (ee_tup2 (a := ("tree" : Str)) ee_str (ee_nxIn (ee_tup3 (a := ("next" : Str)) (b := 0) ee_str ee_int (ee_tup eas_nil (by show 0 ≤ 100000; decide)))))) eas_nil)) (by show 2 ≤ 100000; decide)) (by show 5 + 2 ≤ 90000; decide) (by show 5 < 11; decide) ?_
    refine go_append (R := rPap) (a := .tre (.nx 0 ((rng M.1).map fun y => (y, .tr [0])))) rfl (ee_tre.mpr (ee_tup2 (a := ("tree" : Str)) ee_str (ee_nxIn (ee_tup3 (a := ("next" : Str)) (b := 0) ee_str ee_int (ee_tupL (ee_lcA (S := rP rInt rNd) (fun y : Int => ((y, Nd.tr [0]) : Int × Nd)) (ei_range (ee_fst (ee_var (a := M) rfl)) (by omega) (by omega)) (clear1o rfl rfl rfl) mem1 (fun a _ => eg_name)
      (fun y _ => ee_tup2 (ee_var rfl) (ee_trIn (ee_tup2 (a := ("trace" : Str)) ee_str (ee_sIn (ee_tup (as := [0]) (eas_cons ee_int eas_nil) (by show 1 ≤ 100000; decide)) (by show 1 ≤ 1000; decide))))) (by rw [rng_len]; omega))))))) (by decide) ?_
    refine go_append (R := rPap) (a := .tre (.nx 0 ((rng M.1).map fun y => (y, .tr [])))) rfl (ee_tre.mpr (ee_tup2 (a := ("tree" : Str)) ee_str (ee_nxIn (ee_tup3 (a := ("next" : Str)) (b := 0) ee_str ee_int (ee_tupL (ee_lcA (S := rP rInt rNd) (fun y : Int => ((y, Nd.tr []) : Int × Nd)) (ei_range (ee_fst (ee_var (a := M) rfl)) (by omega) (by omega)) (clear1o rfl rfl rfl) mem1 (fun a _ => eg_name)
      (fun y _ => ee_tup2 (ee_var rfl) (ee_trIn (ee_tup2 (a := ("trace" : Str)) ee_str (ee_sIn (ee_tup (as := []) eas_nil (by show 0 ≤ 100000; decide)) (by show 0 ≤ 1000; decide))))) (by rw [rng_len]; omega))))))) (by show 8 < 90000; decide) ?_
    refine go_asgX (P := fun _ : Told => True) (R := rTold) (ee_callE (ms := [⟨rLay, M⟩, ⟨rEx GoodL rLay, ()⟩]) (ea_cons (ee_var rfl) (ea_cons (ee_call () (ea_cons (ee_call (ns, 4) (ea_cons (ee_var rfl) (ea_cons ee_int ea_nil)) ⟨by show (0 : Int) ≤ 4; decide, by show (4 : Int) ≤ 4; decide⟩) ea_nil) trivial) ea_nil)) ?_) fun t3 _ => ?_
    · rintro vs H hv
      cases hv with
      | cons h1 hv =>
        cases hv with
        | cons h2 hv =>
          cases hv
          obtain ⟨N3, g3, h3⟩ := h2
          exact ⟨(M, N3), .cons h1 (.cons h3 .nil), ⟨gM, g3⟩, fun v H' ⟨t, _, r⟩ => ⟨t, trivial, r⟩⟩
    refine go_join (fun ps : { ps : List Pap // ps.length ≤ 100 } => ⟨lawΓ K ns M N true (.ali r) none (some ⟨rTold, t3⟩), some (5, ownL rPap ps.1)⟩) (fun ⟨ps, hps⟩ => ?_) (b := match t3 with | .ali _ => false | .unl _ => true) ?_ (fun h k => ?_) (fun _ k => k ⟨_, by show 9 ≤ 100; decide⟩)
    · refine go_fixL rfl (by show 5 < 11; decide) ?_
      refine go_ret (EE.is (ee_andV (ee_call (M, r, N) (ea_cons (ee_var rfl) (ea_cons (ee_snd (a := (("alike" : Str), r)) (ee_ali.mp (ee_var (a := Told.ali r) rfl))) (ea_cons (ee_var rfl) ea_nil))) ⟨gM, gN, ht.1⟩) fun _ => ee_notV (ee_any (ee_lcA (S := rBool) (fun p => apartB M N p) (ei_list (ee_var (a := ps) rfl)) (clear1 rfl rfl) mem1 (fun a _ => eg_name)
        (fun p _ => ee_call (M, N, p) (ea_cons (ee_var rfl) (ea_cons (ee_var rfl) (ea_cons (ee_var rfl) ea_nil))) ⟨gM, gN⟩) (by omega)))) ?_) ret
      show (leadsB M r N && !((ps.map fun p => apartB M N p).any id)) = true
      rw [row_leads gM gN ht, Bool.true_and, Bool.not_eq_true', List.any_map, List.any_eq_false]
      intro p _
      show ¬ apartB M N p = true
      rw [papers_not gM gN hD p]
      decide
    · cases t3 with
      | ali r3 => exact ET.is (et_B (ee_eqS (ee_fst (ee_ali.mp (ee_var (a := Told.ali r3) rfl))) ee_str)) (by show decide (("alike" : Str) = ("unlike" : Str)) = false; decide)
      | unl p3 => exact ET.is (et_B (ee_eqS (ee_fst (ee_unl.mp (ee_var (a := Told.unl p3) rfl))) ee_str)) (by show decide (("unlike" : Str) = ("unlike" : Str)) = true; decide)
    · cases t3 with
      | ali r3 => cases h
      | unl p3 => exact go_append (R := rPap) (a := p3) rfl (ee_snd (a := (("unlike" : Str), p3)) (ee_unl.mp (ee_var (a := Told.unl p3) rfl))) (by show 9 < 90000; decide) (go_next (k ⟨_, by show 10 ≤ 100; decide⟩))
end
end EM

set_option Elab.async false
set_option linter.all false
set_option maxRecDepth 100000
set_option maxHeartbeats 2000000
/-! EmEnd: the defs joined, the program's top, the law's end. -/
namespace EM
open PySem PySem.Spec PyProof.Rows L2 Evl
section
variable {P : Program} {w : World} {K : PySem.W.Frag} {mg : Str → Option Value} {base : Heap} {aW : Addr}
def spLaw (K : PySem.W.Frag) : Sp := fun vs H Q _ => ∃ (a : Addr) (ns : List Int), vs = [.ref a] ∧ SqL K H a (ns.map V.int) ∧ ns.length ≤ 63 ∧ ∀ H', Q (.bl true) H'
theorem ok_all (B : Blt mg) (gW : mg "WORDS" = some (.ref aW)) (hW : ∀ H, SqT K H aW (WORDS.map V.str)) (D0 : Dn K mg "degrees" st_degrees ["layout"]) (D1 : Dn K mg "count_of" st_count_of ["layout", "points"]) (D2 : Dn K mg "pair_counts" st_pair_counts ["layout"]) (D3 : Dn K mg "counts_by" st_counts_by ["layout", "word"]) (D4 : Dn K mg "first_unlike" st_first_unlike ["layout", "other"]) (D5 : Dn K mg "traces" st_traces ["layout", "images"]) (D6 : Dn K mg "parting_trace" st_parting_trace ["layout", "other", "images"]) (D7 : Dn K mg "more_codes" st_more_codes ["codes", "blocks", "point"]) (D8 : Dn K mg "row_on" st_row_on ["layout", "other", "images", "ones", "others"]) (D9 : Dn K mg "row_from" st_row_from ["layout", "other", "images"]) (D10 : Dn K mg "node_from" st_node_from ["layout", "other", "images"]) (D11 : Dn K mg "alike" st_alike ["layout", "other"]) (D12 : Dn K mg "is_whole" st_is_whole ["thing"]) (D13 : Dn K mg "is_row_of" st_is_row_of ["thing", "many"]) (D14 : Dn K mg "trace_taken" st_trace_taken ["layout", "other", "trace", "images"]) (D15 : Dn K mg "sons_taken" st_sons_taken ["layout", "other", "sons", "images"]) (D16 : Dn K mg "node_taken" st_node_taken ["layout", "other", "node", "images"]) (D17 : Dn K mg "apart_taken" st_apart_taken ["layout", "other", "paper"]) (D18 : Dn K mg "_law_cell" st__law_cell ["_law_script", "_law_k"]) (D19 : Dn K mg "_law_numbers" st__law_numbers ["_law_cell_here", "_law_many"]) (D20 : Dn K mg "_law_row" st__law_row ["_law_xs", "_law_many"]) (D21 : Dn K mg "_law_mask" st__law_mask ["_law_x", "_law_many"]) (D22 : Dn K mg "_law_renamed" st__law_renamed ["_law_layout", "_law_row_here", "_law_turn"]) (D23 : Dn K mg "_law_leads" st__law_leads ["_law_layout", "_law_row_here", "_law_other"]) (D24 : Dn K mg "_law_all_rows" st__law_all_rows ["_law_many"]) (D25 : Dn K mg "_law_small" st__law_small ["_law_cell_here"]) (D26 : Dn K mg "_law_two" st__law_two ["_law_script"]) (D27 : Dn K mg "law" st_law ["_law_script"]) : FnOk P w K mg base CX0 16 D27.f D27.fd ["_law_script"] (spLaw K) := by
  have c_degrees : Cal P w K mg base 1 "degrees" ["layout"] spDegrees := D0.cal (ok_degrees D0 B)
  have c_count_of : Cal P w K mg base 1 "count_of" ["layout", "points"] spCountOf := D1.cal (ok_count_of D1 B)
  have c_pair_counts : Cal P w K mg base 2 "pair_counts" ["layout"] spPairs := D2.cal (ok_pair_counts D2 B c_count_of)
  have c_counts_by : Cal P w K mg base 3 "counts_by" ["layout", "word"] (spCounts K) := D3.cal (ok_counts_by D3 B (c_degrees.up (by decide)) c_pair_counts)
  have c_first_unlike : Cal P w K mg base 4 "first_unlike" ["layout", "other"] spUnlike := D4.cal (ok_first_unlike D4 B gW hW c_counts_by)
  have c_traces : Cal P w K mg base 1 "traces" ["layout", "images"] spTraces := D5.cal (ok_traces D5 B)
  have c_parting_trace : Cal P w K mg base 2 "parting_trace" ["layout", "other", "images"] spPart := D6.cal (ok_parting_trace D6 B c_traces)
  have c_more_codes : Cal P w K mg base 1 "more_codes" ["codes", "blocks", "point"] spMore := D7.cal (ok_more_codes D7 B)
  have c_row_on : Cal P w K mg base 7 "row_on" ["layout", "other", "images", "ones", "others"] (spRow 6) := D8.cal (ok_row_on (k := 1) D8 B c_more_codes 6)
  have c_row_from : Cal P w K mg base 8 "row_from" ["layout", "other", "images"] spFrom := D9.cal (ok_row_from D9 B (c_more_codes.up (by decide)) c_row_on)
  have c_node_from : Cal P w K mg base 8 "node_from" ["layout", "other", "images"] (spNode 6) := D10.cal (ok_node_from (k := 2) D10 B c_parting_trace 6)
  have c_alike : Cal P w K mg base 9 "alike" ["layout", "other"] spAlike := D11.cal (ok_alike D11 B (c_first_unlike.up (by decide)) c_row_from c_node_from)
  have c_is_whole : Cal P w K mg base 1 "is_whole" ["thing"] spWhole := D12.cal (ok_is_whole D12 B)
  have c_is_row_of : Cal P w K mg base 1 "is_row_of" ["thing", "many"] spIsRow := D13.cal (ok_is_row_of D13 B)
  have c_trace_taken : Cal P w K mg base 2 "trace_taken" ["layout", "other", "trace", "images"] spTrace := D14.cal (ok_trace_taken D14 B c_is_whole c_traces)
  have c_node_taken : Cal P w K mg base 14 "node_taken" ["layout", "other", "node", "images"] (spNT 6) := D16.cal (ok_nodes (k := 2) D16 D15 B (c_is_whole.up (by decide)) (c_is_row_of.up (by decide)) c_trace_taken 6)
  have c_apart_taken : Cal P w K mg base 15 "apart_taken" ["layout", "other", "paper"] spApart := D17.cal (ok_apart_taken D17 B gW hW (c_is_row_of.up (by decide)) (c_counts_by.up (by decide)) c_node_taken)
  have c__law_cell : Cal P w K mg base 1 "_law_cell" ["_law_script", "_law_k"] (spCell K) := D18.cal (ok__law_cell D18 B)
  have c__law_numbers : Cal P w K mg base 1 "_law_numbers" ["_law_cell_here", "_law_many"] spNum := D19.cal (ok__law_numbers D19 B)
  have c__law_row : Cal P w K mg base 1 "_law_row" ["_law_xs", "_law_many"] spLRow := D20.cal (ok__law_row D20 B)
  have c__law_mask : Cal P w K mg base 1 "_law_mask" ["_law_x", "_law_many"] spMask := D21.cal (ok__law_mask D21 B)
  have c__law_renamed : Cal P w K mg base 1 "_law_renamed" ["_law_layout", "_law_row_here", "_law_turn"] spRen := D22.cal (ok__law_renamed D22 B)
  have c__law_leads : Cal P w K mg base 1 "_law_leads" ["_law_layout", "_law_row_here", "_law_other"] spLeads := D23.cal (ok__law_leads D23 B)
  have c__law_all_rows : Cal P w K mg base 1 "_law_all_rows" ["_law_many"] spAll := D24.cal (ok__law_all_rows D24 B)
  have c__law_small : Cal P w K mg base 2 "_law_small" ["_law_cell_here"] spSmall := D25.cal (ok__law_small D25 B c__law_numbers c__law_mask)
  have c__law_two : Cal P w K mg base 3 "_law_two" ["_law_script"] (spTwo K) := D26.cal (ok__law_two D26 B (c__law_cell.up (by decide)) c__law_small (c__law_numbers.up (by decide)) (c__law_row.up (by decide)) (c__law_renamed.up (by decide)))
  refine (ok_law (k := 15) D27 B (c__law_two.up (by decide)) (c__law_all_rows.up (by decide)) (c__law_leads.up (by decide)) (c_alike.up (by decide)) c_apart_taken (c__law_cell.up (by decide)) (c__law_small.up (by decide))).imp fun vs H Q E h => ?_
  obtain ⟨a, ns, rfl, hS, _, q⟩ := h
  refine ⟨⟨H, H, Ex.refl H⟩, ns, rfl, .cons ⟨a, rfl, hS⟩ .nil, trivial, fun v u _ r => ?_⟩
  have r : v = .bl true := r
  subst r
  exact q u.h
end
theorem words_at {K : PySem.W.Frag} {aW : Addr} {dW : Option Addr} {nW : Nat} {t1 t2 t3 t4 t5 : Tok} {slW : Array (Option Value)} (l : K.lookup aW = some ⟨.type "tuple", dW, .seq [Value.str "points" t1, .str "blocks" t2, .str "sizes" t3, .str "degrees" t4, .str "pairs" t5].toArray nW, slW⟩) :
    ∀ H, SqT K H aW (WORDS.map V.str) := fun H => .inr ⟨_, _, nW, l, rfl, rfl, by show 5 ≤ sizeLine; decide, .cons ⟨t1, rfl⟩ (.cons ⟨t2, rfl⟩ (.cons ⟨t3, rfl⟩ (.cons ⟨t4, rfl⟩ (.cons ⟨t5, rfl⟩ .nil))))⟩
theorem all_mk {l : PySem.W.OpenLaw} {w : World} {K : PySem.W.Frag} {h : Heap} {mg : Str → Option Value} {fa f0 f1 f2 f3 f4 f5 f6 f7 f8 f9 f10 f11 f12 f13 f14 f15 f16 f17 f18 f19 f20 f21 f22 f23 f24 f25 f26 f27 aW : Addr} (X : K.In h) (G : h.Ns mainGlobals mg) (hfa : mg "law" = some (.ref fa))
    {od0 an0 od1 an1 od2 an2 od3 an3 od4 an4 od5 an5 od6 an6 od7 an7 od8 an8 od9 an9 od10 an10 od11 an11 od12 an12 od13 an13 od14 an14 od15 an15 od16 an16 od17 an17 od18 an18 od19 an19 od20 an20 od21 an21 od22 an22 od23 an23 od24 an24 od25 an25 od26 an26 od27 an27 dW : Option Addr} {sl0 sl1 sl2 sl3 sl4 sl5 sl6 sl7 sl8 sl9 sl10 sl11 sl12 sl13 sl14 sl15 sl16 sl17 sl18 sl19 sl20 sl21 sl22 sl23 sl24 sl25 sl26 sl27 slW : Array (Option Value)} {oc0 kV0 dc0 pm0 cd0 ct0 oc1 kV1 dc1 pm1 cd1 ct1 oc2 kV2 dc2 pm2 cd2 ct2 oc3 kV3 dc3 pm3 cd3 ct3 oc4 kV4 dc4 pm4 cd4 ct4 oc5 kV5 dc5 pm5 cd5 ct5 oc6 kV6 dc6 pm6 cd6 ct6 oc7 kV7 dc7 pm7 cd7 ct7 oc8 kV8 dc8 pm8 cd8 ct8 oc9 kV9 dc9 pm9 cd9 ct9 oc10 kV10 dc10 pm10 cd10 ct10 oc11 kV11 dc11 pm11 cd11 ct11 oc12 kV12 dc12 pm12 cd12 ct12 oc13 kV13 dc13 pm13 cd13 ct13 oc14 kV14 dc14 pm14 cd14 ct14 oc15 kV15 dc15 pm15 cd15 ct15 oc16 kV16 dc16 pm16 cd16 ct16 oc17 kV17 dc17 pm17 cd17 ct17 oc18 kV18 dc18 pm18 cd18 ct18 oc19 kV19 dc19 pm19 cd19 ct19 oc20 kV20 dc20 pm20 cd20 ct20 oc21 kV21 dc21 pm21 cd21 ct21 oc22 kV22 dc22 pm22 cd22 ct22 oc23 kV23 dc23 pm23 cd23 ct23 oc24 kV24 dc24 pm24 cd24 ct24 oc25 kV25 dc25 pm25 cd25 ct25 oc26 kV26 dc26 pm26 cd26 ct26 oc27 kV27 dc27 pm27 cd27 ct27 : Value} {nW : Nat} {t1 t2 t3 t4 t5 : Tok}
    (a0 : PySem.W.nsIn K mainGlobals "degrees" = some (some (.ref f0))) (l0 : K.lookup f0 = some ⟨oc0, od0, .func (PySem.W.fnOf "degrees" "degrees" (defArgs st_degrees) (defBody st_degrees) (defScope st_degrees) .none kV0 dc0 pm0 an0 cd0 ct0), sl0⟩) (c0 : PySem.W.codeIn K cd0 "degrees" = true) (k0 : PySem.W.keepIn K (.ref f0) = true)
    (a1 : PySem.W.nsIn K mainGlobals "count_of" = some (some (.ref f1))) (l1 : K.lookup f1 = some ⟨oc1, od1, .func (PySem.W.fnOf "count_of" "count_of" (defArgs st_count_of) (defBody st_count_of) (defScope st_count_of) .none kV1 dc1 pm1 an1 cd1 ct1), sl1⟩) (c1 : PySem.W.codeIn K cd1 "count_of" = true) (k1 : PySem.W.keepIn K (.ref f1) = true)
    (a2 : PySem.W.nsIn K mainGlobals "pair_counts" = some (some (.ref f2))) (l2 : K.lookup f2 = some ⟨oc2, od2, .func (PySem.W.fnOf "pair_counts" "pair_counts" (defArgs st_pair_counts) (defBody st_pair_counts) (defScope st_pair_counts) .none kV2 dc2 pm2 an2 cd2 ct2), sl2⟩) (c2 : PySem.W.codeIn K cd2 "pair_counts" = true) (k2 : PySem.W.keepIn K (.ref f2) = true)
    (a3 : PySem.W.nsIn K mainGlobals "counts_by" = some (some (.ref f3))) (l3 : K.lookup f3 = some ⟨oc3, od3, .func (PySem.W.fnOf "counts_by" "counts_by" (defArgs st_counts_by) (defBody st_counts_by) (defScope st_counts_by) .none kV3 dc3 pm3 an3 cd3 ct3), sl3⟩) (c3 : PySem.W.codeIn K cd3 "counts_by" = true) (k3 : PySem.W.keepIn K (.ref f3) = true)
    (a4 : PySem.W.nsIn K mainGlobals "first_unlike" = some (some (.ref f4))) (l4 : K.lookup f4 = some ⟨oc4, od4, .func (PySem.W.fnOf "first_unlike" "first_unlike" (defArgs st_first_unlike) (defBody st_first_unlike) (defScope st_first_unlike) .none kV4 dc4 pm4 an4 cd4 ct4), sl4⟩) (c4 : PySem.W.codeIn K cd4 "first_unlike" = true) (k4 : PySem.W.keepIn K (.ref f4) = true)
    (a5 : PySem.W.nsIn K mainGlobals "traces" = some (some (.ref f5))) (l5 : K.lookup f5 = some ⟨oc5, od5, .func (PySem.W.fnOf "traces" "traces" (defArgs st_traces) (defBody st_traces) (defScope st_traces) .none kV5 dc5 pm5 an5 cd5 ct5), sl5⟩) (c5 : PySem.W.codeIn K cd5 "traces" = true) (k5 : PySem.W.keepIn K (.ref f5) = true)
    (a6 : PySem.W.nsIn K mainGlobals "parting_trace" = some (some (.ref f6))) (l6 : K.lookup f6 = some ⟨oc6, od6, .func (PySem.W.fnOf "parting_trace" "parting_trace" (defArgs st_parting_trace) (defBody st_parting_trace) (defScope st_parting_trace) .none kV6 dc6 pm6 an6 cd6 ct6), sl6⟩) (c6 : PySem.W.codeIn K cd6 "parting_trace" = true) (k6 : PySem.W.keepIn K (.ref f6) = true)
    (a7 : PySem.W.nsIn K mainGlobals "more_codes" = some (some (.ref f7))) (l7 : K.lookup f7 = some ⟨oc7, od7, .func (PySem.W.fnOf "more_codes" "more_codes" (defArgs st_more_codes) (defBody st_more_codes) (defScope st_more_codes) .none kV7 dc7 pm7 an7 cd7 ct7), sl7⟩) (c7 : PySem.W.codeIn K cd7 "more_codes" = true) (k7 : PySem.W.keepIn K (.ref f7) = true)
    (a8 : PySem.W.nsIn K mainGlobals "row_on" = some (some (.ref f8))) (l8 : K.lookup f8 = some ⟨oc8, od8, .func (PySem.W.fnOf "row_on" "row_on" (defArgs st_row_on) (defBody st_row_on) (defScope st_row_on) .none kV8 dc8 pm8 an8 cd8 ct8), sl8⟩) (c8 : PySem.W.codeIn K cd8 "row_on" = true) (k8 : PySem.W.keepIn K (.ref f8) = true)
    (a9 : PySem.W.nsIn K mainGlobals "row_from" = some (some (.ref f9))) (l9 : K.lookup f9 = some ⟨oc9, od9, .func (PySem.W.fnOf "row_from" "row_from" (defArgs st_row_from) (defBody st_row_from) (defScope st_row_from) .none kV9 dc9 pm9 an9 cd9 ct9), sl9⟩) (c9 : PySem.W.codeIn K cd9 "row_from" = true) (k9 : PySem.W.keepIn K (.ref f9) = true)
    (a10 : PySem.W.nsIn K mainGlobals "node_from" = some (some (.ref f10))) (l10 : K.lookup f10 = some ⟨oc10, od10, .func (PySem.W.fnOf "node_from" "node_from" (defArgs st_node_from) (defBody st_node_from) (defScope st_node_from) .none kV10 dc10 pm10 an10 cd10 ct10), sl10⟩) (c10 : PySem.W.codeIn K cd10 "node_from" = true) (k10 : PySem.W.keepIn K (.ref f10) = true)
    (a11 : PySem.W.nsIn K mainGlobals "alike" = some (some (.ref f11))) (l11 : K.lookup f11 = some ⟨oc11, od11, .func (PySem.W.fnOf "alike" "alike" (defArgs st_alike) (defBody st_alike) (defScope st_alike) .none kV11 dc11 pm11 an11 cd11 ct11), sl11⟩) (c11 : PySem.W.codeIn K cd11 "alike" = true) (k11 : PySem.W.keepIn K (.ref f11) = true)
    (a12 : PySem.W.nsIn K mainGlobals "is_whole" = some (some (.ref f12))) (l12 : K.lookup f12 = some ⟨oc12, od12, .func (PySem.W.fnOf "is_whole" "is_whole" (defArgs st_is_whole) (defBody st_is_whole) (defScope st_is_whole) .none kV12 dc12 pm12 an12 cd12 ct12), sl12⟩) (c12 : PySem.W.codeIn K cd12 "is_whole" = true) (k12 : PySem.W.keepIn K (.ref f12) = true)
    (a13 : PySem.W.nsIn K mainGlobals "is_row_of" = some (some (.ref f13))) (l13 : K.lookup f13 = some ⟨oc13, od13, .func (PySem.W.fnOf "is_row_of" "is_row_of" (defArgs st_is_row_of) (defBody st_is_row_of) (defScope st_is_row_of) .none kV13 dc13 pm13 an13 cd13 ct13), sl13⟩) (c13 : PySem.W.codeIn K cd13 "is_row_of" = true) (k13 : PySem.W.keepIn K (.ref f13) = true)
    (a14 : PySem.W.nsIn K mainGlobals "trace_taken" = some (some (.ref f14))) (l14 : K.lookup f14 = some ⟨oc14, od14, .func (PySem.W.fnOf "trace_taken" "trace_taken" (defArgs st_trace_taken) (defBody st_trace_taken) (defScope st_trace_taken) .none kV14 dc14 pm14 an14 cd14 ct14), sl14⟩) (c14 : PySem.W.codeIn K cd14 "trace_taken" = true) (k14 : PySem.W.keepIn K (.ref f14) = true)
    (a15 : PySem.W.nsIn K mainGlobals "sons_taken" = some (some (.ref f15))) (l15 : K.lookup f15 = some ⟨oc15, od15, .func (PySem.W.fnOf "sons_taken" "sons_taken" (defArgs st_sons_taken) (defBody st_sons_taken) (defScope st_sons_taken) .none kV15 dc15 pm15 an15 cd15 ct15), sl15⟩) (c15 : PySem.W.codeIn K cd15 "sons_taken" = true) (k15 : PySem.W.keepIn K (.ref f15) = true)
    (a16 : PySem.W.nsIn K mainGlobals "node_taken" = some (some (.ref f16))) (l16 : K.lookup f16 = some ⟨oc16, od16, .func (PySem.W.fnOf "node_taken" "node_taken" (defArgs st_node_taken) (defBody st_node_taken) (defScope st_node_taken) .none kV16 dc16 pm16 an16 cd16 ct16), sl16⟩) (c16 : PySem.W.codeIn K cd16 "node_taken" = true) (k16 : PySem.W.keepIn K (.ref f16) = true)
    (a17 : PySem.W.nsIn K mainGlobals "apart_taken" = some (some (.ref f17))) (l17 : K.lookup f17 = some ⟨oc17, od17, .func (PySem.W.fnOf "apart_taken" "apart_taken" (defArgs st_apart_taken) (defBody st_apart_taken) (defScope st_apart_taken) .none kV17 dc17 pm17 an17 cd17 ct17), sl17⟩) (c17 : PySem.W.codeIn K cd17 "apart_taken" = true) (k17 : PySem.W.keepIn K (.ref f17) = true)
    (a18 : PySem.W.nsIn K mainGlobals "_law_cell" = some (some (.ref f18))) (l18 : K.lookup f18 = some ⟨oc18, od18, .func (PySem.W.fnOf "_law_cell" "_law_cell" (defArgs st__law_cell) (defBody st__law_cell) (defScope st__law_cell) .none kV18 dc18 pm18 an18 cd18 ct18), sl18⟩) (c18 : PySem.W.codeIn K cd18 "_law_cell" = true) (k18 : PySem.W.keepIn K (.ref f18) = true)
    (a19 : PySem.W.nsIn K mainGlobals "_law_numbers" = some (some (.ref f19))) (l19 : K.lookup f19 = some ⟨oc19, od19, .func (PySem.W.fnOf "_law_numbers" "_law_numbers" (defArgs st__law_numbers) (defBody st__law_numbers) (defScope st__law_numbers) .none kV19 dc19 pm19 an19 cd19 ct19), sl19⟩) (c19 : PySem.W.codeIn K cd19 "_law_numbers" = true) (k19 : PySem.W.keepIn K (.ref f19) = true)
    (a20 : PySem.W.nsIn K mainGlobals "_law_row" = some (some (.ref f20))) (l20 : K.lookup f20 = some ⟨oc20, od20, .func (PySem.W.fnOf "_law_row" "_law_row" (defArgs st__law_row) (defBody st__law_row) (defScope st__law_row) .none kV20 dc20 pm20 an20 cd20 ct20), sl20⟩) (c20 : PySem.W.codeIn K cd20 "_law_row" = true) (k20 : PySem.W.keepIn K (.ref f20) = true)
    (a21 : PySem.W.nsIn K mainGlobals "_law_mask" = some (some (.ref f21))) (l21 : K.lookup f21 = some ⟨oc21, od21, .func (PySem.W.fnOf "_law_mask" "_law_mask" (defArgs st__law_mask) (defBody st__law_mask) (defScope st__law_mask) .none kV21 dc21 pm21 an21 cd21 ct21), sl21⟩) (c21 : PySem.W.codeIn K cd21 "_law_mask" = true) (k21 : PySem.W.keepIn K (.ref f21) = true)
    (a22 : PySem.W.nsIn K mainGlobals "_law_renamed" = some (some (.ref f22))) (l22 : K.lookup f22 = some ⟨oc22, od22, .func (PySem.W.fnOf "_law_renamed" "_law_renamed" (defArgs st__law_renamed) (defBody st__law_renamed) (defScope st__law_renamed) .none kV22 dc22 pm22 an22 cd22 ct22), sl22⟩) (c22 : PySem.W.codeIn K cd22 "_law_renamed" = true) (k22 : PySem.W.keepIn K (.ref f22) = true)
    (a23 : PySem.W.nsIn K mainGlobals "_law_leads" = some (some (.ref f23))) (l23 : K.lookup f23 = some ⟨oc23, od23, .func (PySem.W.fnOf "_law_leads" "_law_leads" (defArgs st__law_leads) (defBody st__law_leads) (defScope st__law_leads) .none kV23 dc23 pm23 an23 cd23 ct23), sl23⟩) (c23 : PySem.W.codeIn K cd23 "_law_leads" = true) (k23 : PySem.W.keepIn K (.ref f23) = true)
    (a24 : PySem.W.nsIn K mainGlobals "_law_all_rows" = some (some (.ref f24))) (l24 : K.lookup f24 = some ⟨oc24, od24, .func (PySem.W.fnOf "_law_all_rows" "_law_all_rows" (defArgs st__law_all_rows) (defBody st__law_all_rows) (defScope st__law_all_rows) .none kV24 dc24 pm24 an24 cd24 ct24), sl24⟩) (c24 : PySem.W.codeIn K cd24 "_law_all_rows" = true) (k24 : PySem.W.keepIn K (.ref f24) = true)
    (a25 : PySem.W.nsIn K mainGlobals "_law_small" = some (some (.ref f25))) (l25 : K.lookup f25 = some ⟨oc25, od25, .func (PySem.W.fnOf "_law_small" "_law_small" (defArgs st__law_small) (defBody st__law_small) (defScope st__law_small) .none kV25 dc25 pm25 an25 cd25 ct25), sl25⟩) (c25 : PySem.W.codeIn K cd25 "_law_small" = true) (k25 : PySem.W.keepIn K (.ref f25) = true)
    (a26 : PySem.W.nsIn K mainGlobals "_law_two" = some (some (.ref f26))) (l26 : K.lookup f26 = some ⟨oc26, od26, .func (PySem.W.fnOf "_law_two" "_law_two" (defArgs st__law_two) (defBody st__law_two) (defScope st__law_two) .none kV26 dc26 pm26 an26 cd26 ct26), sl26⟩) (c26 : PySem.W.codeIn K cd26 "_law_two" = true) (k26 : PySem.W.keepIn K (.ref f26) = true)
    (a27 : PySem.W.nsIn K mainGlobals "law" = some (some (.ref f27))) (l27 : K.lookup f27 = some ⟨oc27, od27, .func (PySem.W.fnOf "law" "law" (defArgs st_law) (defBody st_law) (defScope st_law) .none kV27 dc27 pm27 an27 cd27 ct27), sl27⟩) (c27 : PySem.W.codeIn K cd27 "law" = true) (k27 : PySem.W.keepIn K (.ref f27) = true)
    (aw : PySem.W.nsIn K mainGlobals "WORDS" = some (some (.ref aW))) (lw : K.lookup aW = some ⟨.type "tuple", dW, .seq [Value.str "points" t1, .str "blocks" t2, .str "sizes" t3, .str "degrees" t4, .str "pairs" t5].toArray nW, slW⟩)
    (z0 : PySem.W.nsIn K mainGlobals "len" = some none) (z1 : PySem.W.nsIn K mainGlobals "range" = some none) (z2 : PySem.W.nsIn K mainGlobals "any" = some none) (z3 : PySem.W.nsIn K mainGlobals "all" = some none) (z4 : PySem.W.nsIn K mainGlobals "abs" = some none) (z5 : PySem.W.nsIn K mainGlobals "max" = some none) (z6 : PySem.W.nsIn K mainGlobals "int" = some none) (z7 : PySem.W.nsIn K mainGlobals "bool" = some none) (z8 : PySem.W.nsIn K mainGlobals "str" = some none) (z9 : PySem.W.nsIn K mainGlobals "tuple" = some none) (z10 : PySem.W.nsIn K mainGlobals "list" = some none) (z11 : PySem.W.nsIn K mainGlobals "set" = some none) (z12 : PySem.W.nsIn K mainGlobals "sorted" = some none) (z13 : PySem.W.nsIn K mainGlobals "isinstance" = some none) (z14 : PySem.W.nsIn K mainGlobals "zip" = some none) (z15 : PySem.W.nsIn K mainGlobals "enumerate" = some none) :
    ∃ fd : FuncData, (∀ (s : Shared) (v : Value), BindsTo s fd ⟨[v], []⟩ [("_law_script", v)]) ∧ ∀ base : Heap, K.In base → base.Ns mainGlobals mg → FnOk l.prog w K mg base CX0 16 fa fd ["_law_script"] (spLaw K) := by
  have e := hfa.symm.trans (PySem.W.mg_of X G a27)
  cases e
  have F0 := fun_mk (st := st_degrees) l0 c0 k0
  have b0 := F0.binds (ps := ["layout"]) fun _ _ _ _ _ _ us hl => match us, hl with | [_], _ => rfl
  have F1 := fun_mk (st := st_count_of) l1 c1 k1
  have b1 := F1.binds (ps := ["layout", "points"]) fun _ _ _ _ _ _ us hl => match us, hl with | [_, _], _ => rfl
  have F2 := fun_mk (st := st_pair_counts) l2 c2 k2
  have b2 := F2.binds (ps := ["layout"]) fun _ _ _ _ _ _ us hl => match us, hl with | [_], _ => rfl
  have F3 := fun_mk (st := st_counts_by) l3 c3 k3
  have b3 := F3.binds (ps := ["layout", "word"]) fun _ _ _ _ _ _ us hl => match us, hl with | [_, _], _ => rfl
  have F4 := fun_mk (st := st_first_unlike) l4 c4 k4
  have b4 := F4.binds (ps := ["layout", "other"]) fun _ _ _ _ _ _ us hl => match us, hl with | [_, _], _ => rfl
  have F5 := fun_mk (st := st_traces) l5 c5 k5
  have b5 := F5.binds (ps := ["layout", "images"]) fun _ _ _ _ _ _ us hl => match us, hl with | [_, _], _ => rfl
  have F6 := fun_mk (st := st_parting_trace) l6 c6 k6
  have b6 := F6.binds (ps := ["layout", "other", "images"]) fun _ _ _ _ _ _ us hl => match us, hl with | [_, _, _], _ => rfl
  have F7 := fun_mk (st := st_more_codes) l7 c7 k7
  have b7 := F7.binds (ps := ["codes", "blocks", "point"]) fun _ _ _ _ _ _ us hl => match us, hl with | [_, _, _], _ => rfl
  have F8 := fun_mk (st := st_row_on) l8 c8 k8
  have b8 := F8.binds (ps := ["layout", "other", "images", "ones", "others"]) fun _ _ _ _ _ _ us hl => match us, hl with | [_, _, _, _, _], _ => rfl
  have F9 := fun_mk (st := st_row_from) l9 c9 k9
  have b9 := F9.binds (ps := ["layout", "other", "images"]) fun _ _ _ _ _ _ us hl => match us, hl with | [_, _, _], _ => rfl
  have F10 := fun_mk (st := st_node_from) l10 c10 k10
  have b10 := F10.binds (ps := ["layout", "other", "images"]) fun _ _ _ _ _ _ us hl => match us, hl with | [_, _, _], _ => rfl
  have F11 := fun_mk (st := st_alike) l11 c11 k11
  have b11 := F11.binds (ps := ["layout", "other"]) fun _ _ _ _ _ _ us hl => match us, hl with | [_, _], _ => rfl
  have F12 := fun_mk (st := st_is_whole) l12 c12 k12
  have b12 := F12.binds (ps := ["thing"]) fun _ _ _ _ _ _ us hl => match us, hl with | [_], _ => rfl
  have F13 := fun_mk (st := st_is_row_of) l13 c13 k13
  have b13 := F13.binds (ps := ["thing", "many"]) fun _ _ _ _ _ _ us hl => match us, hl with | [_, _], _ => rfl
  have F14 := fun_mk (st := st_trace_taken) l14 c14 k14
  have b14 := F14.binds (ps := ["layout", "other", "trace", "images"]) fun _ _ _ _ _ _ us hl => match us, hl with | [_, _, _, _], _ => rfl
  have F15 := fun_mk (st := st_sons_taken) l15 c15 k15
  have b15 := F15.binds (ps := ["layout", "other", "sons", "images"]) fun _ _ _ _ _ _ us hl => match us, hl with | [_, _, _, _], _ => rfl
  have F16 := fun_mk (st := st_node_taken) l16 c16 k16
  have b16 := F16.binds (ps := ["layout", "other", "node", "images"]) fun _ _ _ _ _ _ us hl => match us, hl with | [_, _, _, _], _ => rfl
  have F17 := fun_mk (st := st_apart_taken) l17 c17 k17
  have b17 := F17.binds (ps := ["layout", "other", "paper"]) fun _ _ _ _ _ _ us hl => match us, hl with | [_, _, _], _ => rfl
  have F18 := fun_mk (st := st__law_cell) l18 c18 k18
  have b18 := F18.binds (ps := ["_law_script", "_law_k"]) fun _ _ _ _ _ _ us hl => match us, hl with | [_, _], _ => rfl
  have F19 := fun_mk (st := st__law_numbers) l19 c19 k19
  have b19 := F19.binds (ps := ["_law_cell_here", "_law_many"]) fun _ _ _ _ _ _ us hl => match us, hl with | [_, _], _ => rfl
  have F20 := fun_mk (st := st__law_row) l20 c20 k20
  have b20 := F20.binds (ps := ["_law_xs", "_law_many"]) fun _ _ _ _ _ _ us hl => match us, hl with | [_, _], _ => rfl
  have F21 := fun_mk (st := st__law_mask) l21 c21 k21
  have b21 := F21.binds (ps := ["_law_x", "_law_many"]) fun _ _ _ _ _ _ us hl => match us, hl with | [_, _], _ => rfl
  have F22 := fun_mk (st := st__law_renamed) l22 c22 k22
  have b22 := F22.binds (ps := ["_law_layout", "_law_row_here", "_law_turn"]) fun _ _ _ _ _ _ us hl => match us, hl with | [_, _, _], _ => rfl
  have F23 := fun_mk (st := st__law_leads) l23 c23 k23
  have b23 := F23.binds (ps := ["_law_layout", "_law_row_here", "_law_other"]) fun _ _ _ _ _ _ us hl => match us, hl with | [_, _, _], _ => rfl
  have F24 := fun_mk (st := st__law_all_rows) l24 c24 k24
  have b24 := F24.binds (ps := ["_law_many"]) fun _ _ _ _ _ _ us hl => match us, hl with | [_], _ => rfl
  have F25 := fun_mk (st := st__law_small) l25 c25 k25
  have b25 := F25.binds (ps := ["_law_cell_here"]) fun _ _ _ _ _ _ us hl => match us, hl with | [_], _ => rfl
  have F26 := fun_mk (st := st__law_two) l26 c26 k26
  have b26 := F26.binds (ps := ["_law_script"]) fun _ _ _ _ _ _ us hl => match us, hl with | [_], _ => rfl
  have F27 := fun_mk (st := st_law) l27 c27 k27
  have b27 := F27.binds (ps := ["_law_script"]) fun _ _ _ _ _ _ us hl => match us, hl with | [_], _ => rfl
  have B : Blt mg := ⟨PySem.W.mg_none_of X G z0, PySem.W.mg_none_of X G z1, PySem.W.mg_none_of X G z2, PySem.W.mg_none_of X G z3, PySem.W.mg_none_of X G z4, PySem.W.mg_none_of X G z5, PySem.W.mg_none_of X G z6, PySem.W.mg_none_of X G z7, PySem.W.mg_none_of X G z8, PySem.W.mg_none_of X G z9, PySem.W.mg_none_of X G z10, PySem.W.mg_none_of X G z11, PySem.W.mg_none_of X G z12, PySem.W.mg_none_of X G z13, PySem.W.mg_none_of X G z14, PySem.W.mg_none_of X G z15⟩
  refine ⟨PySem.W.fnOf "law" "law" (defArgs st_law) (defBody st_law) (defScope st_law) .none kV27 dc27 pm27 an27 cd27 ct27, fun s v => .of_eq rfl, fun base _ _ => ?_⟩
  exact ok_all B (PySem.W.mg_of X G aw) (words_at lw) ⟨_, _, F0, PySem.W.mg_of X G a0, b0⟩ ⟨_, _, F1, PySem.W.mg_of X G a1, b1⟩ ⟨_, _, F2, PySem.W.mg_of X G a2, b2⟩ ⟨_, _, F3, PySem.W.mg_of X G a3, b3⟩ ⟨_, _, F4, PySem.W.mg_of X G a4, b4⟩ ⟨_, _, F5, PySem.W.mg_of X G a5, b5⟩ ⟨_, _, F6, PySem.W.mg_of X G a6, b6⟩ ⟨_, _, F7, PySem.W.mg_of X G a7, b7⟩ ⟨_, _, F8, PySem.W.mg_of X G a8, b8⟩ ⟨_, _, F9, PySem.W.mg_of X G a9, b9⟩ ⟨_, _, F10, PySem.W.mg_of X G a10, b10⟩ ⟨_, _, F11, PySem.W.mg_of X G a11, b11⟩ ⟨_, _, F12, PySem.W.mg_of X G a12, b12⟩ ⟨_, _, F13, PySem.W.mg_of X G a13, b13⟩ ⟨_, _, F14, PySem.W.mg_of X G a14, b14⟩ ⟨_, _, F15, PySem.W.mg_of X G a15, b15⟩ ⟨_, _, F16, PySem.W.mg_of X G a16, b16⟩ ⟨_, _, F17, PySem.W.mg_of X G a17, b17⟩ ⟨_, _, F18, PySem.W.mg_of X G a18, b18⟩ ⟨_, _, F19, PySem.W.mg_of X G a19, b19⟩ ⟨_, _, F20, PySem.W.mg_of X G a20, b20⟩ ⟨_, _, F21, PySem.W.mg_of X G a21, b21⟩ ⟨_, _, F22, PySem.W.mg_of X G a22, b22⟩ ⟨_, _, F23, PySem.W.mg_of X G a23, b23⟩ ⟨_, _, F24, PySem.W.mg_of X G a24, b24⟩ ⟨_, _, F25, PySem.W.mg_of X G a25, b25⟩ ⟨_, _, F26, PySem.W.mg_of X G a26, b26⟩ ⟨_, _, F27, PySem.W.mg_of X G a27, b27⟩
theorem walk {l : PySem.W.OpenLaw} {q : Program} {loose : List Str} {XP : (Str → Option Value) → Heap → Prop} {YP : World → Heap → Prop} {d : DefRec} {K : Params → PySem.W.Frag} (hn : l.most = some 63) (hdf : d.params.defaults = [])
    (hY : ∀ (w : World) (h : Heap), YP w h → (K w.params).In h)
    (F : ∀ (w : World) (mg : Str → Option Value) (fa : Addr) (h : Heap), (K w.params).In h → h.Ns mainGlobals mg → mg d.name = some (.ref fa) → ∃ fd : FuncData, (∀ (s : Shared) (u : Value), BindsTo s fd ⟨[u], []⟩ [("_law_script", u)]) ∧
      ∀ base : Heap, (K w.params).In base → base.Ns mainGlobals mg → FnOk l.prog w (K w.params) mg base CX0 16 fa fd ["_law_script"] (spLaw (K w.params))) :
    PySem.W.WalkO q loose XP YP l.row.toRowW d [] (fun f vs => PySem.call f vs) :=
  L2.walk_of (n := 63) (k := 16) (x := "_law_script") (CX := fun _ => CX0) (sp := fun w => spLaw (K w.params)) hn (by decide) hdf ⟨rfl, by decide, by decide⟩ hY F (fun _ _ a ns hl _ hS => ⟨a, ns, rfl, hS, hl, fun _ => rfl⟩) fun _ _ _ _ _ z => z
end EM
open PySem PySem.W PyProof.Rows
set_option maxRecDepth 100000 in
set_option maxHeartbeats 0 in
theorem PySem.Challenge.cw_evenmeet_k52_whole_by_all_rows_holds : PySem.Challenge.rw_evenmeet_k52_whole_by_all_rows.Holds := by
  w_on; o_law; k_head; (case hw => w_witness2)
  k_fill
  refine EM.walk (l := PySem.Challenge.rw_evenmeet_k52_whole_by_all_rows) rfl rfl (fun w h Y => PySem.W.kIn_of Y) ?F
  case F =>
    intro w mg fa h KX G hmg
    refine' EM.all_mk KX G hmg ?a0 ?l0 ?c0 ?k0 ?a1 ?l1 ?c1 ?k1 ?a2 ?l2 ?c2 ?k2 ?a3 ?l3 ?c3 ?k3 ?a4 ?l4 ?c4 ?k4 ?a5 ?l5 ?c5 ?k5 ?a6 ?l6 ?c6 ?k6 ?a7 ?l7 ?c7 ?k7 ?a8 ?l8 ?c8 ?k8 ?a9 ?l9 ?c9 ?k9 ?a10 ?l10 ?c10 ?k10 ?a11 ?l11 ?c11 ?k11 ?a12 ?l12 ?c12 ?k12 ?a13 ?l13 ?c13 ?k13 ?a14 ?l14 ?c14 ?k14 ?a15 ?l15 ?c15 ?k15 ?a16 ?l16 ?c16 ?k16 ?a17 ?l17 ?c17 ?k17 ?a18 ?l18 ?c18 ?k18 ?a19 ?l19 ?c19 ?k19 ?a20 ?l20 ?c20 ?k20 ?a21 ?l21 ?c21 ?k21 ?a22 ?l22 ?c22 ?k22 ?a23 ?l23 ?c23 ?k23 ?a24 ?l24 ?c24 ?k24 ?a25 ?l25 ?c25 ?k25 ?a26 ?l26 ?c26 ?k26 ?a27 ?l27 ?c27 ?k27 ?aw ?lw ?z0 ?z1 ?z2 ?z3 ?z4 ?z5 ?z6 ?z7 ?z8 ?z9 ?z10 ?z11 ?z12 ?z13 ?z14 ?z15
    (case a0 => k_is)
    (case l0 => k_is)
    (case c0 => k_is)
    (case k0 => k_is)
    (case a1 => k_is)
    (case l1 => k_is)
    (case c1 => k_is)
    (case k1 => k_is)
    (case a2 => k_is)
    (case l2 => k_is)
    (case c2 => k_is)
    (case k2 => k_is)
    (case a3 => k_is)
    (case l3 => k_is)
    (case c3 => k_is)
    (case k3 => k_is)
    (case a4 => k_is)
    (case l4 => k_is)
    (case c4 => k_is)
    (case k4 => k_is)
    (case a5 => k_is)
    (case l5 => k_is)
    (case c5 => k_is)
    (case k5 => k_is)
    (case a6 => k_is)
    (case l6 => k_is)
    (case c6 => k_is)
    (case k6 => k_is)
    (case a7 => k_is)
    (case l7 => k_is)
    (case c7 => k_is)
    (case k7 => k_is)
    (case a8 => k_is)
    (case l8 => k_is)
    (case c8 => k_is)
    (case k8 => k_is)
    (case a9 => k_is)
    (case l9 => k_is)
    (case c9 => k_is)
    (case k9 => k_is)
    (case a10 => k_is)
    (case l10 => k_is)
    (case c10 => k_is)
    (case k10 => k_is)
    (case a11 => k_is)
    (case l11 => k_is)
    (case c11 => k_is)
    (case k11 => k_is)
    (case a12 => k_is)
    (case l12 => k_is)
    (case c12 => k_is)
    (case k12 => k_is)
    (case a13 => k_is)
    (case l13 => k_is)
    (case c13 => k_is)
    (case k13 => k_is)
    (case a14 => k_is)
    (case l14 => k_is)
    (case c14 => k_is)
    (case k14 => k_is)
    (case a15 => k_is)
    (case l15 => k_is)
    (case c15 => k_is)
    (case k15 => k_is)
    (case a16 => k_is)
    (case l16 => k_is)
    (case c16 => k_is)
    (case k16 => k_is)
    (case a17 => k_is)
    (case l17 => k_is)
    (case c17 => k_is)
    (case k17 => k_is)
    (case a18 => k_is)
    (case l18 => k_is)
    (case c18 => k_is)
    (case k18 => k_is)
    (case a19 => k_is)
    (case l19 => k_is)
    (case c19 => k_is)
    (case k19 => k_is)
    (case a20 => k_is)
    (case l20 => k_is)
    (case c20 => k_is)
    (case k20 => k_is)
    (case a21 => k_is)
    (case l21 => k_is)
    (case c21 => k_is)
    (case k21 => k_is)
    (case a22 => k_is)
    (case l22 => k_is)
    (case c22 => k_is)
    (case k22 => k_is)
    (case a23 => k_is)
    (case l23 => k_is)
    (case c23 => k_is)
    (case k23 => k_is)
    (case a24 => k_is)
    (case l24 => k_is)
    (case c24 => k_is)
    (case k24 => k_is)
    (case a25 => k_is)
    (case l25 => k_is)
    (case c25 => k_is)
    (case k25 => k_is)
    (case a26 => k_is)
    (case l26 => k_is)
    (case c26 => k_is)
    (case k26 => k_is)
    (case a27 => k_is)
    (case l27 => k_is)
    (case c27 => k_is)
    (case k27 => k_is)
    (case aw => k_is)
    (case lw => k_is)
    (case z0 => k_is)
    (case z1 => k_is)
    (case z2 => k_is)
    (case z3 => k_is)
    (case z4 => k_is)
    (case z5 => k_is)
    (case z6 => k_is)
    (case z7 => k_is)
    (case z8 => k_is)
    (case z9 => k_is)
    (case z10 => k_is)
    (case z11 => k_is)
    (case z12 => k_is)
    (case z13 => k_is)
    (case z14 => k_is)
    (case z15 => k_is)
#print axioms PySem.Challenge.cw_evenmeet_k52_whole_by_all_rows_holds
